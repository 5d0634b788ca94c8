import PyProof.Rows.All
import Wide.All
import OpenK.AllK
import Wide.FinOn
import HandS.ForMost
import HandS.Text
import HandS.List
import HandS.StrMore
import HandS.Deep
import HandS.SortRule
import KE.SortData
import HandS.Comp
import HandS.Exc
import HandS.ExcOwn
import HandS.CallSlots
import HandS.TryOnly
import HandS.Flow
import HandS.Wide
import HandS.Dict
import HandS.TupLe
import HandS.Conv
import HandS.IsInst
import HandS.Style
import HandS.NoneIn
import HandS.RaiseMore
import HandS.Iter
import HandS.Small
import HandS.ExcField
import HandS.ExcInit
import HandS.ExcValue
import HandS.ExcIs
import KE.KExcIs
import HandS.DictTup
import HandS.SetKeys
import HandS.More
import HandS.CallRecv
import HandS.Rev
import HandS.RevTup
import HandS.WordsExc
import HandS.Defaults
import HandS.Codes
import HandS.Head0
import HandS.Head1
import HandS.Head2
import HandS.HeadEnd
import HandS.HeadHook1
import HandS.HeadHook2
import HandS.HeadHook3
import PySem.Challenge.RW_weather_k72_reach
set_option linter.all false
/-! Px1: a small language of our own (values, stores, expressions, statements) and its runner. Plain Lean. -/
namespace Px

/-- values: tuples, lists and dicts that nobody changes any more are values; what may change is a number in the store -/
inductive W where
  | non | bl (b : Bool) | int (i : Int) | str (s : List Nat) | tup (l : List W) | lst (l : List W) | dct (ks vs : List W) | ref (n : Nat) | exn (c : Nat) (l : List W)
  deriving Inhabited

/-- what stands in the store -/
inductive O where
  | lst (l : List W)
  | dict (t : Bool) (l : List (W × W))
  | ins (c : Nat) (fs : List (Nat × W))
  deriving Inhabited
abbrev St := List O
abbrev Env := List (Option W)

inductive R (α : Type) where
  | ok (a : α) (s : St)
  | exc (c : Nat) (l : List W) (s : St)
  | bad
def R.bind {α β : Type} : R α → (α → St → R β) → R β
  | .ok a s, f => f a s
  | .exc c l s, _ => .exc c l s
  | .bad, _ => .bad
@[simp] theorem R.bind_ok {α β : Type} (a : α) (s : St) (f : α → St → R β) : (R.ok a s).bind f = f a s := rfl
@[simp] theorem R.bind_exc {α β : Type} (c : Nat) (l : List W) (s : St) (f : α → St → R β) : (R.exc c l s : R α).bind f = .exc c l s := rfl
@[simp] theorem R.bind_bad {α β : Type} (f : α → St → R β) : (R.bad : R α).bind f = .bad := rfl

inductive Op2 where
  | add | sub | mul | fdiv | mod | pow | eq | ne | lt | le | gt | ge | is_ | isn | in_ | nin
  deriving DecidableEq
inductive Bi where
  | abs | len | str | int | list | sum | min | max | any | all | divmod | sorted | set_ | dict
  deriving DecidableEq
inductive Ty where
  /-- cls, valueError: the classes whose exceptions are, are none of it -/
  | int | str | bool | tup | lst | cls (c : Nat) (yes no : List Nat) | valueError (yes : List Nat)
  deriving DecidableEq
/-- methods of the built-in types, and the program's own by number -/
inductive M where
  | append | extend | pop | clear | setdefault | get | items | update | index | count | join | split | partition | replace | zfill
  deriving DecidableEq

inductive Tg where
  | one (i : Nat) | many (is : List Nat)

mutual
inductive E where
  | v (i : Nat) | k (w : W)
  | tup (es : Es) | lst (fz : Bool) (es : Es) | dct (t : Bool) (ps : Es)
  | op (o : Op2) (a b : E) | chain (o p : Op2) (a b c : E)
  | neg (a : E) | not_ (a : E) | and_ (a b : E) | or_ (a b : E) | ite (c a b : E)
  | ix (a i : E) | sl (fz : Bool) (a : E) (lo hi : Es)
  | fld (a : E) (f : Nat) (ks : List Nat)
  | call (f : Nat) (es : Es) (ds : List W)
  | mk (c f : Nat) (es : Es)
  | mkx (c : Nat) (es : Es)
  | meth (fz : Bool) (a : E) (m : M) (es : Es)
  | mine (a : E) (c f : Nat) (es : Es) (ds : List W)
  | sit (fz : Bool) (a : E)
  | kin (neg : Bool) (a : E) (t : List (List Nat × W))
  | kix (t : List (List Nat × W)) (a : E)
  | dget (d k x : E)
  | sdf (d k x : E)
  | rvl (fz : Bool) (a : E)
  | bi (fz : Bool) (b : Bi) (es : Es)
  | sortK (fz : Bool) (a : E) (f : Nat)
  | isi (a : E) (t : List Ty)
  | lc (fz : Bool) (t : Tg) (it : It) (c : E) (e : E)
inductive Es where
  | nil | cons (e : E) (es : Es)
inductive It where
  | val (a : E) | range (es : Es) | rev (a : E) | items (a : E)
end

/-- what an except clause does -/
inductive Hd where
  | set (i : Nat) (w : W) | keep (i j : Nat) | fld (i j : Nat) (f : Nat) | rse (c : Nat)
mutual
inductive S where
  | set (i : Nat) (e : E) | setT (is : List Nat) (e : E) | par (is : List Nat) (es : Es)
  | setI (o i e : E) | setF (o : E) (f : Nat) (e : E)
  | ex (e : E) | ret (e : E) | ite (c : E) (a b : Ss) | whl (c : E) (b : Ss) | for_ (t : Tg) (it : It) (b : Ss)
  | brk | cont | pass | rse (c : Nat) (es : Es) | try_ (b : Ss) (c : Nat) (h : Hd)
inductive Ss where
  | nil | cons (s : S) (ss : Ss)
end

/-! ### by values -/
abbrev sS (s : List Nat) : PySem.Str := ⟨s.toArray⟩
abbrev uS (x : PySem.Str) : List Nat := x.cps.toList
def ixL {α : Type} (l : List α) (i : Int) : Option α := if 0 ≤ i then l[i.toNat]? else if -(l.length : Int) ≤ i then l[(i + l.length).toNat]? else none
def cut {α : Type} (l : List α) (lo hi : Option Int) : List α := (l.drop (HT.sIx l.length 0 lo)).take (HT.sIx l.length l.length hi - HT.sIx l.length 0 lo)
/-- the longest text, list that is made -/
abbrev line : Nat := 16777216

def listOf (st : St) : W → Option (List W)
  | .lst l => some l
  | .tup l => some l
  | .ref n => match st[n]? with
    | some (.lst l) => some l
    | _ => none
  | _ => none

/-- lists alone -/
def lstOf (st : St) : W → Option (List W)
  | .lst l => some l
  | .ref n => match st[n]? with
    | some (.lst l) => some l
    | _ => none
  | _ => none

def truth (st : St) : W → Option Bool
  | .str s => if s.length ≤ line then some (!s.isEmpty) else none
  | .non => some false
  | .bl b => some b
  | .int i => some (i != 0)
  | .tup l => some (!l.isEmpty)
  | .lst l => some (!l.isEmpty)
  | .ref n => match st[n]? with
    | some (.lst l) => some (!l.isEmpty)
    | _ => none
  | _ => none

/-! what is frozen: refs from n on are made values -/
mutual
def frz (ob : Nat → Option W) : W → Option W
  | .ref j => ob j
  | .tup l => (frzL ob l).map .tup
  | .lst l => (frzL ob l).map .lst
  | .dct ks vs => match frzL ob ks, frzL ob vs with
    | some ks', some vs' => some (.dct ks' vs')
    | _, _ => none
  | .exn c l => (frzL ob l).map (.exn c)
  | .non => some .non
  | .bl b => some (.bl b)
  | .int i => some (.int i)
  | .str s => some (.str s)
def frzL (ob : Nat → Option W) : List W → Option (List W)
  | [] => some []
  | x :: xs => match frz ob x, frzL ob xs with
    | some y, some ys => some (y :: ys)
    | _, _ => none
end
/-- d: how deep from object to object -/
def obj (st : St) (n : Nat) : Nat → Nat → Option W
  | 0, j => if j < n then some (.ref j) else none
  | d + 1, j => if j < n then some (.ref j) else match st[j]? with
    | some (.lst l) => (frzL (obj st n d) l).map .lst
    | _ => none
def freeze (st : St) (n : Nat) (w : W) : Option W := frz (obj st n 4) w

/-! == -/
mutual
def eqv : W → W → Bool
  | .non, .non => true
  | .bl a, .bl b => a == b
  | .bl a, .int j => (if a then 1 else 0) == j
  | .int i, .bl b => i == (if b then 1 else 0)
  | .int i, .int j => i == j
  | .str x, .str y => x == y
  | .lst xs, .lst ys => eqvL xs ys
  | .tup xs, .tup ys => eqvL xs ys
  | _, _ => false
def eqvL : List W → List W → Bool
  | [], [] => true
  | x :: xs, y :: ys => eqv x y && eqvL xs ys
  | _, _ => false
end
/- data whose == is told, of a depth of d at most -/
mutual
def dat : Nat → W → Bool
  | _, .non => true
  | _, .bl _ => true
  | _, .int _ => true
  | _, .str s => s.all (· < 0x110000)
  | 0, .tup _ => false
  | 0, .lst _ => false
  | d + 1, .tup l => datL d l
  | d + 1, .lst l => datL d l
  | _, _ => false
def datL : Nat → List W → Bool
  | _, [] => true
  | d, x :: xs => dat d x && datL d xs
end
/-! as the model's data -/
mutual
def toD : W → PySem.PyData
  | .bl b => .bool b
  | .int i => .int i
  | .str s => .str (sS s)
  | .tup l => .tuple (toDs l)
  | .lst l => .list (toDs l)
  | _ => .none
def toDs : List W → List PySem.PyData
  | [] => []
  | x :: xs => toD x :: toDs xs
end
/-- a ref is looked up -/
def seen (st : St) : W → W
  | .ref n => match st[n]? with
    | some (.lst l) => .lst l
    | _ => .ref n
  | w => w
def eqR (st : St) (x y : W) : Option Bool :=
  match x, y with
  | .int i, .int j => some (i == j)
  | .str s, .str t => some (s == t)
  | .non, .non => some true
  | x, y => if dat 60 (seen st x) = true ∧ dat 60 (seen st y) = true then some (eqv (seen st x) (seen st y)) else none
def isR : W → W → Option Bool
  | .non, .non => some true
  | .bl a, .bl b => some (a == b)
  | .bl _, .non => some false
  | .int _, .non => some false
  | .str _, .non => some false
  | .tup _, .non => some false
  | .lst _, .non => some false
  | .dct _ _, .non => some false
  | .ref _, .non => some false
  | .exn _ _, .non => some false
  | _, _ => none

/-! dicts whose keys are numbers and texts -/
def isKey : W → Bool
  | .int _ => true
  | .str _ => true
  | _ => false
def lookD (l : List (W × W)) (k : W) : Option W := (l.find? fun p => eqv p.1 k).map (·.2)
def putD (l : List (W × W)) (k v : W) : List (W × W) := if (l.any fun p => eqv p.1 k) = true then l.map (fun p => if eqv p.1 k = true then (p.1, v) else p) else l ++ [(k, v)]
/-- tuples of numbers and texts -/
def isTK : W → Bool
  | .tup l => l.all isKey
  | _ => false
def keyOk (t : Bool) (w : W) : Bool := if t then isTK w else isKey w
def dictOf (st : St) : W → Option (Bool × List (W × W))
  | .ref n => match st[n]? with
    | some (.dict t l) => some (t, l)
    | _ => none
  | _ => none
def pairUp : List W → Option (List (W × W))
  | [] => some []
  | k :: v :: r => (pairUp r).map ((k, v) :: ·)
  | _ => none
def mrg (l : List (W × W)) : List (W × W) := l.foldl (fun acc p => putD acc p.1 p.2) []
/-- what a display makes -/
def dsp (ws : List W) : Option (List (W × W)) := match pairUp ws with
  | some l => if (l.all fun p => isKey p.1) = true ∧ l.length ≤ 15 then some (mrg l) else none
  | none => none
/-- a dict whose keys are to be tuples is made empty -/
def newD (t : Bool) (ws : List W) (st : St) : R W := match t, ws with
  | true, [] => .ok (.ref st.length) (st ++ [.dict true []])
  | true, _ => .bad
  | false, ws => (match dsp ws with
    | some l => .ok (.ref st.length) (st ++ [.dict false l])
    | none => .bad)
def okO (st : St) : Option W → R W
  | some w => .ok w st
  | none => .bad
def okB (st : St) : Option Bool → R W
  | some b => .ok (.bl b) st
  | none => .bad
def notB : Option Bool → Option Bool
  | some b => some (!b)
  | none => none

def opAdd (st : St) : W → W → R W
  | .int a, .int b => .ok (.int (a + b)) st
  | .str a, .str b => if a.length + b.length ≤ line then .ok (.str (a ++ b)) st else .bad
  | .tup a, .tup b => if a.isEmpty = false ∧ b.isEmpty = false ∧ a.length + b.length ≤ line then .ok (.tup (a ++ b)) st else .bad
  | x, y => match lstOf st x, lstOf st y with
    | some a, some b => if a.length + b.length ≤ line then .ok (.lst (a ++ b)) st else .bad
    | _, _ => .bad
def opSub (st : St) : W → W → R W
  | .int a, .int b => .ok (.int (a - b)) st
  | _, _ => .bad
def opMul (st : St) : W → W → R W
  | .int a, .int b => if a.natAbs.log2 + b.natAbs.log2 < 1000000 ∨ b.natAbs < 2 ^ 60 then .ok (.int (a * b)) st else .bad
  | .str a, .int n => if 0 ≤ n ∧ n ≤ 1000 ∧ a.length ≤ 1000 then .ok (.str (List.replicate n.toNat a).flatten) st else .bad
  | _, _ => .bad
def opDiv (st : St) : W → W → R W
  | .int a, .int b => if b ≠ 0 ∧ b.natAbs.log2 < 9000 then .ok (.int (a.fdiv b)) st else .bad
  | _, _ => .bad
def opMod (st : St) : W → W → R W
  | .int a, .int b => if b ≠ 0 then .ok (.int (a.fmod b)) st else .bad
  | _, _ => .bad
def opPow (st : St) : W → W → R W
  | .int a, .int b => if 0 ≤ b ∧ b ≤ 1000000 ∧ a.natAbs < 2 ^ 64 then .ok (.int (a ^ b.toNat)) st else .bad
  | _, _ => .bad
def asInt : W → Option Int
  | .int i => some i
  | _ => none
/-- all of one kind -/
def allAs {α : Type} (f : W → Option α) : List W → Option (List α)
  | [] => some []
  | x :: r => match f x, allAs f r with
    | some y, some ys => some (y :: ys)
    | _, _ => none
/-- from the first pair that differs on -/
def leI : List Int → List Int → Bool
  | [], _ => true
  | _ :: _, [] => false
  | x :: xs, y :: ys => if x = y then leI xs ys else decide (x ≤ y)
def opLt (st : St) : W → W → R W
  | .int a, .int b => .ok (.bl (decide (a < b))) st
  | _, _ => .bad
def opLe (st : St) : W → W → R W
  | .int a, .int b => .ok (.bl (decide (a ≤ b))) st
  | _, _ => .bad
/-- x ≥ y: of numbers, and of tuples of as many numbers -/
def opGe (st : St) : W → W → R W
  | .int a, .int b => .ok (.bl (decide (b ≤ a))) st
  | .tup a, .tup b => (match allAs asInt a, allAs asInt b with
    | some xs, some ys => if xs.length = ys.length then .ok (.bl (leI ys xs)) st else .bad
    | _, _ => .bad)
  | _, _ => .bad
/-- x in y -/
def inR (st : St) : W → W → Option Bool
  | .str [c], .str s => some (decide (c ∈ s))
  | .str a, .str s => some (!(PySem.Builtin.Str.occurrences (sS s) (sS a) 0 (sS s).length 1).isEmpty)
  | x, y => match listOf st y with
    | some l => if dat 60 (seen st x) = true ∧ datL 59 l = true then some (l.any fun z => eqv z (seen st x)) else none
    | none => match dictOf st y with
      | some d => if keyOk d.1 x = true then some (lookD d.2 x).isSome else none
      | none => none

def op2 (o : Op2) (x y : W) (st : St) : R W :=
  match o with
  | .add => opAdd st x y
  | .sub => opSub st x y
  | .mul => opMul st x y
  | .fdiv => opDiv st x y
  | .mod => opMod st x y
  | .pow => opPow st x y
  | .eq => okB st (eqR st x y)
  | .ne => okB st (notB (eqR st x y))
  | .lt => opLt st x y
  | .le => opLe st x y
  | .gt => opLt st y x
  | .ge => opGe st x y
  | .is_ => okB st (isR x y)
  | .isn => okB st (notB (isR x y))
  | .in_ => okB st (inR st x y)
  | .nin => okB st (notB (inR st x y))

/-- a new list: a value, or one in the store -/
def newL (fz : Bool) (l : List W) (st : St) : R W := if fz then .ok (.lst l) st else .ok (.ref st.length) (st ++ [.lst l])

def ixD (st : St) (x y : W) : R W := match dictOf st x with
  | some d => if keyOk d.1 y = true then okO st (lookD d.2 y) else .bad
  | none => .bad
def ixW (st : St) : W → W → R W
  | .str s, .int i => if s.length ≤ line then (match ixL s i with
    | some c => .ok (.str [c]) st
    | none => .bad) else .bad
  | w, .int i => match listOf st w with
    | some l => okO st (ixL l i)
    | none => ixD st w (.int i)
  | w, y => ixD st w y
def part : List W → Option (Option Int)
  | [] => some none
  | [.int i] => some (some i)
  | _ => none
def slW (fz : Bool) (st : St) (w : W) (a b : Option Int) : R W :=
  match w with
  | .str s => if s.length ≤ line then .ok (.str (cut s a b)) st else .bad
  | .tup l => if HT.sIx l.length 0 a = 0 ∧ HT.sIx l.length l.length b = l.length then .bad else .ok (.tup (cut l a b)) st
  | .lst l => newL fz (cut l a b) st
  | .ref n => (match st[n]? with
    | some (.lst l) => newL fz (cut l a b) st
    | _ => .bad)
  | _ => .bad

def fldW (st : St) : W → Nat → List Nat → R W
  | .exn k [w], _, ks => if k ∈ ks then .ok w st else .bad
  | .ref n, f, _ => (match st[n]? with
    | some (.ins _ fs) => okO st (fs.lookup f)
    | _ => .bad)
  | _, _, _ => .bad

/-- str(n) -/
def numS (i : Int) : List Nat := uS (PySem.Str.ofString (toString i))
def asBl : W → Option Bool
  | .bl b => some b
  | _ => none
def asStr : W → Option (List Nat)
  | .str s => some s
  | _ => none
def isTup1 : W → Bool
  | .tup (_ :: _) => true
  | _ => false
def isPlain : W → Bool
  | .tup _ => false
  | .non => false
  | .ref _ => false
  | .dct _ _ => false
  | .exn _ _ => false
  | _ => true
/-- may be sorted -/
def srtOk (l : List W) : Bool := datL 59 l && (l.all fun x => l.all fun y => PySem.W.alike (toD x) (toD y)) && (l.all isTup1 || l.all isPlain) && decide (l.length ≤ line)
/-- sorted by what the model says -/
def srt (l : List W) : List W := l.mergeSort (PySem.W.dataLe false toD)
def maxI : Int → List Int → Int
  | m, [] => m
  | m, x :: r => maxI (if m < x then x else m) r
def minI : Int → List Int → Int
  | m, [] => m
  | m, x :: r => minI (if x < m then x else m) r
def digs (s : List Nat) : Bool := !s.isEmpty && s.all (fun c => decide (48 ≤ c) && decide (c ≤ 57)) && decide (s.length ≤ 640)
def biLst (fz : Bool) (st : St) : List W → R W
  | [w] => (match listOf st w with
    | some l => newL fz l st
    | none => (match dictOf st w with
      | some (true, d) => newL fz (d.map (·.1)) st
      | _ => .bad))
  | _ => .bad
def biSum (st : St) : List W → R W
  | [w] => (match lstOf st w with
    | some l => (match allAs asInt l with
      | some ns => .ok (.int ns.sum) st
      | none => .bad)
    | none => .bad)
  | _ => .bad
def biMax (st : St) : List W → R W
  | [.int i, .int j] => .ok (.int (if j > i then j else i)) st
  | [w] => (match lstOf st w with
    | some l => (match allAs asInt l with
      | some (n :: ns) => .ok (.int (maxI n ns)) st
      | _ => .bad)
    | none => .bad)
  | _ => .bad
def biMin (st : St) : List W → R W
  | [.int i, .int j] => .ok (.int (if j < i then j else i)) st
  | [w] => (match lstOf st w with
    | some l => (match allAs asInt l with
      | some (n :: ns) => .ok (.int (minI n ns)) st
      | _ => .bad)
    | none => .bad)
  | _ => .bad
def biAny (st : St) : List W → R W
  | [w] => (match lstOf st w with
    | some l => (match allAs asBl l with
      | some bs => .ok (.bl (bs.any id)) st
      | none => .bad)
    | none => .bad)
  | _ => .bad
def biAll (st : St) : List W → R W
  | [w] => (match lstOf st w with
    | some l => (match allAs asBl l with
      | some bs => .ok (.bl (bs.all id)) st
      | none => .bad)
    | none => .bad)
  | _ => .bad
def biDivmod (st : St) : List W → R W
  | [.int i, .int j] => if 0 < j ∧ j < 1073741824 then .ok (.tup [.int (i / j), .int (i % j)]) st else .bad
  | _ => .bad
def biStr (st : St) : List W → R W
  | [.int i] => if i.natAbs.log2 < 1920 then .ok (.str (numS i)) st else .bad
  | [.str s] => .ok (.str s) st
  | _ => .bad
def biInt (st : St) : List W → R W
  | [.int i] => .ok (.int i) st
  | [.bl b] => .ok (.int (if b then 1 else 0)) st
  | [.str s] => if digs s = true then .ok (.int (PySem.NumText.digitsVal s)) st else .bad
  | _ => .bad
def biSorted (fz : Bool) (st : St) : List W → R W
  | [w] => (match lstOf st w with
    | some l => if srtOk l = true then newL fz (srt l) st else .bad
    | none => .bad)
  | _ => .bad
/-- sorted(d.items()) -/
def prs (l : List (W × W)) : List W := l.map fun p => .tup [p.1, p.2]
def sitW (fz : Bool) (st : St) (w : W) : R W := match dictOf st w with
  | some (true, l) => if srtOk (prs l) = true then newL fz (srt (prs l)) st else .bad
  | _ => .bad
def biAbs (st : St) : List W → R W
  | [.int i] => .ok (.int (if i < 0 then -i else i)) st
  | _ => .bad
def biLen (st : St) : List W → R W
  | [.str s] => if s.length ≤ line then .ok (.int s.length) st else .bad
  | [w] => (match listOf st w with
    | some l => .ok (.int l.length) st
    | none => .bad)
  | _ => .bad
def biW (fz : Bool) (b : Bi) (ws : List W) (st : St) : R W :=
  match b with
  | .abs => biAbs st ws
  | .len => biLen st ws
  | .list => biLst fz st ws
  | .sum => biSum st ws
  | .max => biMax st ws
  | .min => biMin st ws
  | .any => biAny st ws
  | .all => biAll st ws
  | .divmod => biDivmod st ws
  | .str => biStr st ws
  | .int => biInt st ws
  | .sorted => biSorted fz st ws
  | .set_ => .bad
  | .dict => .bad

/-! ### methods of texts and lists -/
/-- whose method it is -/
inductive Rc where
  | str | lst
  deriving DecidableEq
def recv (st : St) : W → Option Rc
  | .str _ => some .str
  | .ref n => (match st[n]? with
    | some (.lst _) => some .lst
    | _ => none)
  | .lst _ => some .lst
  | _ => none
/-- whose methods are told -/
def mok : Rc → M → Bool
  | .lst, .append => true
  | .lst, .pop => true
  | .lst, .clear => true
  | .lst, .extend => true
  | .str, .split => true
  | .str, .partition => true
  | .str, .join => true
  | .str, .zfill => true
  | .str, .count => true
  | _, _ => false
/-- of some kind at least -/
def mokA (m : M) : Bool := mok .str m || mok .lst m
def mAppend (st : St) : W → List W → R W
  | .ref n, [y] => (match st[n]? with
    | some (.lst l) => if l.length < line then .ok .non (st.set n (.lst (l ++ [y]))) else .bad
    | _ => .bad)
  | _, _ => .bad
def mExtend (st : St) : W → List W → R W
  | .ref n, [y] => (match st[n]?, lstOf st y with
    | some (.lst l), some l2 => if l.length + l2.length ≤ line then .ok .non (st.set n (.lst (l ++ l2))) else .bad
    | _, _ => .bad)
  | _, _ => .bad
def mPop (st : St) : W → List W → R W
  | .ref n, [] => (match st[n]? with
    | some (.lst l) => (match l[l.length - 1]? with
      | some y => .ok y (st.set n (.lst l.dropLast))
      | none => .bad)
    | _ => .bad)
  | .ref n, [.int 0] => (match st[n]? with
    | some (.lst (y :: l)) => .ok y (st.set n (.lst l))
    | _ => .bad)
  | _, _ => .bad
def mClear (st : St) : W → List W → R W
  | .ref n, [] => (match st[n]? with
    | some (.lst _) => .ok .non (st.set n (.lst []))
    | _ => .bad)
  | _, _ => .bad
def mSplit (fz : Bool) (st : St) : W → List W → R W
  | .str a, [.str b] => if b.isEmpty = false ∧ a.length + 2 ≤ line then newL fz ((PySem.Txt.split (sS a) (sS b)).map fun x => .str (uS x)) st else .bad
  | _, _ => .bad
def mPartition (st : St) : W → List W → R W
  | .str a, [.str b] => if b.isEmpty = false ∧ a.length ≤ line then .ok (.tup [.str (uS (PySem.Txt.partition (sS a) (sS b)).1), .str (uS (PySem.Txt.partition (sS a) (sS b)).2.1), .str (uS (PySem.Txt.partition (sS a) (sS b)).2.2)]) st else .bad
  | _, _ => .bad
def mJoin (st : St) : W → List W → R W
  | .str a, [w] => (match lstOf st w with
    | some l => (match allAs asStr l with
      | some ys => if (ys.map (·.length)).sum + ys.length * a.length ≤ line then .ok (.str (uS (PySem.Txt.join (sS a) (ys.map sS)))) st else .bad
      | none => .bad)
    | none => .bad)
  | _, _ => .bad
def mZfill (st : St) : W → List W → R W
  | .str a, [.int i] => if PySem.PadOk i = true then .ok (.str (uS (PySem.Txt.zfill (sS a) i))) st else .bad
  | _, _ => .bad
def mCount (st : St) : W → List W → R W
  | .str a, [.str b] => .ok (.int (PySem.Txt.count (sS a) (sS b))) st
  | _, _ => .bad
def methW (fz : Bool) (m : M) (w : W) (ws : List W) (st : St) : R W :=
  match m with
  | .append => mAppend st w ws
  | .extend => mExtend st w ws
  | .pop => mPop st w ws
  | .clear => mClear st w ws
  | .split => mSplit fz st w ws
  | .partition => mPartition st w ws
  | .join => mJoin st w ws
  | .zfill => mZfill st w ws
  | .count => mCount st w ws
  | _ => .bad

/-- of which types something is, as far as it is told -/
def isTy (st : St) : W → Ty → Option Bool
  | .int _, t => (match t with | .int => some true | .str | .bool | .tup | .lst => some false | _ => none)
  | .bl _, t => (match t with | .int | .bool => some true | .str | .tup | .lst => some false | _ => none)
  | .str _, t => (match t with | .str => some true | .int | .bool | .tup | .lst => some false | _ => none)
  | .non, t => (match t with | .int | .bool | .str | .tup | .lst => some false | _ => none)
  | .tup _, t => (match t with | .tup => some true | .int | .bool | .str | .lst => some false | _ => none)
  | .lst _, t => (match t with | .lst => some true | .int | .bool | .str | .tup => some false | _ => none)
  | .ref n, t => (match st[n]? with
    | some (.lst _) => (match t with | .lst => some true | .int | .bool | .str | .tup => some false | _ => none)
    | _ => none)
  | .exn k _, t => (match t with
    | .cls _ yes no => if k ∈ yes then some true else if k ∈ no then some false else none
    | .valueError yes => if k ∈ yes then some true else none
    | _ => none)
  | _, _ => none

def isTys (st : St) (w : W) : List Ty → Option Bool
  | [] => none
  | [t] => isTy st w t
  | t :: ts => match isTy st w t, isTys st w ts with
    | some a, some b => some (a || b)
    | _, _ => none
/-! ### the runner -/
/-- again and again, while a step is left -/
def lpN {σ ρ : Type} (f : σ → Sum σ ρ) : Nat → σ → Option ρ
  | 0, _ => none
  | n + 1, s => match f s with
    | .inl s' => lpN f n s'
    | .inr r => some r
open Classical in
noncomputable def lp {σ ρ : Type} (f : σ → Sum σ ρ) (s : σ) : Option ρ := if h : ∃ n r, lpN f n s = some r then some (Classical.choose (Classical.choose_spec h)) else none

inductive RS where
  | nx (e : Env) (s : St)
  | ret (w : W) (s : St)
  | brk (e : Env) (s : St)
  | ct (e : Env) (s : St)
  | exc (c : Nat) (l : List W) (e : Env) (s : St)
  | bad

def setMany : List Nat → List W → Env → Option Env
  | [], [], e => some e
  | i :: is, w :: ws, e => setMany is ws (e.set i (some w))
  | _, _, _ => none
def setTg : Tg → W → Env → Option Env
  | .one i, w, e => some (e.set i (some w))
  | .many is, .tup l, e => setMany is l e
  | .many _, _, _ => none

/-- items of what is walked, and what must stay in the store meanwhile -/
structure Walk where
  items : List W
  chk : St → Prop
def rng (a : Int) (n : Nat) (c : Int) : List W := (List.range n).map fun (k : Nat) => .int (a + (k : Int) * c)
def steps (a b c : Int) : Nat := if a < b then ((b - a - 1) / c + 1).toNat else 0
def small (i : Int) : Prop := -(2 ^ 62) ≤ i ∧ i < 2 ^ 62
instance (i : Int) : Decidable (small i) := by unfold small; exact inferInstance
def walkVal (st : St) : W → Option Walk
  | .lst l => some ⟨l, fun _ => True⟩
  | .tup l => some ⟨l, fun _ => True⟩
  | .str s => some ⟨s.map fun c => .str [c], fun _ => True⟩
  | .ref n => match st[n]? with
    | some (.lst l) => some ⟨l, fun st' => st'[n]? = some (.lst l)⟩
    | some (.dict true l) => some ⟨l.map (·.1), fun st' => st'[n]? = some (.dict true l)⟩
    | _ => none
  | _ => none
def walkRange : List W → Option Walk
  | [.int b] => if small b then some ⟨rng 0 b.toNat 1, fun _ => True⟩ else none
  | [.int a, .int b] => if small a ∧ small b then some ⟨rng a (b - a).toNat 1, fun _ => True⟩ else none
  | [.int a, .int b, .int c] => if PySem.Builtin.Range.small a b c = true ∧ 0 < c ∧ c < 1073741824 then some ⟨rng a (steps a b c) c, fun _ => True⟩ else none
  | _ => none
def walkRev (st : St) : W → Option Walk
  | .lst l => some ⟨l.reverse, fun _ => True⟩
  | .ref n => match st[n]? with
    | some (.lst l) => some ⟨l.reverse, fun st' => st'[n]? = some (.lst l)⟩
    | _ => none
  | _ => none
def walkItems (st : St) : W → Option Walk
  | _ => none

open Classical in
noncomputable def forL (chk : St → Prop) (tg : Tg) (body : Env → St → RS) : List W → Env → St → RS
  | [], e, s => if chk s then .nx e s else .bad
  | x :: xs, e, s => if chk s then (match setTg tg x e with
    | some e' => (match body e' s with
      | .nx e2 s2 => forL chk tg body xs e2 s2
      | .ct e2 s2 => forL chk tg body xs e2 s2
      | .brk e2 s2 => .nx e2 s2
      | r => r)
    | none => .bad) else .bad
open Classical in
noncomputable def lcL (chk : St → Prop) (tg : Tg) (c e : Env → St → R W) (env : Env) : List W → List W → St → R (List W)
  | [], acc, s => if chk s then .ok acc s else .bad
  | x :: xs, acc, s => if chk s then (match setTg tg x env with
    | some e' => (match c e' s with
      | .ok w s2 => (match truth s2 w with
        | some true => (match e e' s2 with
          | .ok y s3 => if acc.length < line then lcL chk tg c e env xs (acc ++ [y]) s3 else .bad
          | _ => .bad)
        | some false => lcL chk tg c e env xs acc s2
        | none => .bad)
      | _ => .bad)
    | none => .bad) else .bad

/-- a dict of the module: is a text a key; what stands there -/
def kinW (neg : Bool) (t : List (List Nat × W)) (s : St) : W → R W
  | .str x => .ok (.bl (if neg then !(t.lookup x).isSome else (t.lookup x).isSome)) s
  | _ => .bad
def kixW (t : List (List Nat × W)) (s : St) : W → R W
  | .str x => okO s (t.lookup x)
  | _ => .bad
/-- d.get(k, x); d.setdefault(k, x) -/
def isDf (s : St) (d : W) : Bool := (dictOf s d).isSome
def dgetW (s : St) (d k x : W) : R W := match dictOf s d with
  | some (t, l) => if keyOk t k = true then .ok ((lookD l k).getD x) s else .bad
  | _ => .bad
def sdfW (s : St) (d k x : W) : R W := match d with
  | .ref n => (match s[n]? with
    | some (.dict t l) => if keyOk t k = true ∧ l.length < line then (match lookD l k with
      | some w => .ok w s
      | none => .ok x (s.set n (.dict t (putD l k x)))) else .bad
    | _ => .bad)
  | _ => .bad
/-- of which class it is -/
def insOf (st : St) : W → Option Nat
  | .ref n => match st[n]? with
    | some (.ins c _) => some c
    | _ => none
  | _ => none

section
variable (cl : Nat → List W → St → R W) (mkc : Nat → Nat → List W → St → R W) (mt : Nat → Nat → Option Nat)
mutual
noncomputable def evE : E → Env → St → R W
  | .v i, e, s => (match e[i]? with
    | some (some w) => .ok w s
    | _ => .bad)
  | .k w, _, s => .ok w s
  | .tup es, e, s => (evEs es e s).bind fun ws s => .ok (.tup ws) s
  | .lst fz es, e, s => (evEs es e s).bind fun ws s => newL fz ws s
  | .dct t ps, e, s => (match evEs ps e s with
    | .ok ws s2 => newD t ws s2
    | _ => .bad)
  | .op o a b, e, s => (evE a e s).bind fun x s => (evE b e s).bind fun y s => op2 o x y s
  | .chain o p a b c, e, s => (evE a e s).bind fun x s => (evE b e s).bind fun y s => (op2 o x y s).bind fun z s => (match z with
    | .bl true => (evE c e s).bind fun w s => op2 p y w s
    | .bl false => .ok (.bl false) s
    | _ => .bad)
  | .neg a, e, s => (evE a e s).bind fun x s => (match x with
    | .int i => .ok (.int (-i)) s
    | _ => .bad)
  | .not_ a, e, s => (evE a e s).bind fun x s => okB s (notB (truth s x))
  | .and_ a b, e, s => (evE a e s).bind fun x s => (match truth s x with
    | some true => evE b e s
    | some false => .ok x s
    | none => .bad)
  | .or_ a b, e, s => (evE a e s).bind fun x s => (match truth s x with
    | some true => .ok x s
    | some false => evE b e s
    | none => .bad)
  | .ite c a b, e, s => (evE c e s).bind fun x s => (match truth s x with
    | some true => evE a e s
    | some false => evE b e s
    | none => .bad)
  | .ix a i, e, s => (evE a e s).bind fun x s => (evE i e s).bind fun y s => ixW s x y
  | .sl fz a lo hi, e, s => (evE a e s).bind fun x s => (evEs lo e s).bind fun y s => (match part y with
    | some lo' => (evEs hi e s).bind fun z s => (match part z with
      | some hi' => slW fz s x lo' hi'
      | none => .bad)
    | none => .bad)
  | .fld a f ks, e, s => (evE a e s).bind fun x s => fldW s x f ks
  | .call f es ds, e, s => (evEs es e s).bind fun ws s => cl f (ws ++ ds) s
  | .mk c f es, e, s => (evEs es e s).bind fun ws s => mkc c f ws s
  | .mkx c es, e, s => (evEs es e s).bind fun ws s => .ok (.exn c ws) s
  | .meth fz a m es, e, s => (evE a e s).bind fun x s => (match recv s x with
    | some k => if mok k m = true then (evEs es e s).bind fun ws s => methW fz m x ws s else .bad
    | none => .bad)
  | .rvl fz a, e, s => (evE a e s).bind fun x s => (match lstOf s x with
    | some l => newL fz l.reverse s
    | none => .bad)
  | .mine a c f es ds, e, s => (evE a e s).bind fun x s => if insOf s x = some c ∧ mt c f = none then (evEs es e s).bind fun ws s => cl f (x :: (ws ++ ds)) s else .bad
  | .sit fz a, e, s => (evE a e s).bind fun x s => sitW fz s x
  | .kin neg a t, e, s => (evE a e s).bind fun x s => kinW neg t s x
  | .kix t a, e, s => (evE a e s).bind fun x s => kixW t s x
  | .dget d k x, e, s => (evE d e s).bind fun d s => if isDf s d = true then (evE k e s).bind fun k s => (evE x e s).bind fun x s => dgetW s d k x else .bad
  | .sdf d k x, e, s => (evE d e s).bind fun d s => if isDf s d = true then (evE k e s).bind fun k s => (evE x e s).bind fun x s => sdfW s d k x else .bad
  | .bi fz b es, e, s => (evEs es e s).bind fun ws s => biW fz b ws s
  | .sortK _ _ _, _, _ => .bad
  | .isi a ts, e, s => (evE a e s).bind fun x s => okB s (isTys s x ts)
  | .lc fz tg it c el, e, s => (evIt it e s).bind fun wk s => (lcL wk.chk tg (evE c) (evE el) e wk.items [] s).bind fun l s => newL fz l s
noncomputable def evEs : Es → Env → St → R (List W)
  | .nil, _, s => .ok [] s
  | .cons a es, e, s => (evE a e s).bind fun w s => (evEs es e s).bind fun ws s => .ok (w :: ws) s
noncomputable def evIt : It → Env → St → R Walk
  | .val a, e, s => (evE a e s).bind fun w s => (match walkVal s w with
    | some wk => .ok wk s
    | none => .bad)
  | .range es, e, s => (evEs es e s).bind fun ws s => (match walkRange ws with
    | some wk => .ok wk s
    | none => .bad)
  | .rev a, e, s => (evE a e s).bind fun w s => (match walkRev s w with
    | some wk => .ok wk s
    | none => .bad)
  | .items a, e, s => (evE a e s).bind fun w s => (match walkItems s w with
    | some wk => .ok wk s
    | none => .bad)
end

def RS.of (e : Env) : R W → (W → St → RS) → RS
  | .ok w s, f => f w s
  | .exc c l s, _ => .exc c l e s
  | .bad, _ => .bad
def RS.ofL (e : Env) : R (List W) → (List W → St → RS) → RS
  | .ok w s, f => f w s
  | .exc c l s, _ => .exc c l e s
  | .bad, _ => .bad
def RS.ofW (e : Env) : R Walk → (Walk → St → RS) → RS
  | .ok w s, f => f w s
  | .exc c l s, _ => .exc c l e s
  | .bad, _ => .bad
def nxO (s : St) : Option Env → RS
  | some e => .nx e s
  | none => .bad
/-- o[i] = w -/
def setIW (s : St) : W → W → W → Option St
  | .ref n, y, w => (match s[n]? with
    | some (.lst l) => (match y with
      | .int i => (L2.ixN l.length i).map fun j => s.set n (.lst (l.set j w))
      | _ => none)
    | some (.dict t l) => if keyOk t y = true ∧ l.length < line then some (s.set n (.dict t (putD l y w))) else none
    | _ => none)
  | _, _, _ => none
def putFld (f : Nat) (w : W) : List (Nat × W) → List (Nat × W)
  | [] => [(f, w)]
  | (g, x) :: r => if g = f then (g, w) :: r else (g, x) :: putFld f w r
def setFW (s : St) : W → Nat → W → Option St
  | .ref n, f, w => (match s[n]? with
    | some (.ins c fs) => if fs.length < 1000 then some (s.set n (.ins c (putFld f w fs))) else none
    | _ => none)
  | _, _, _ => none
/- the fields that an exception of a class is made with -/
variable (xf : Nat → Nat → Option Bool) (xfl : Nat → Option Nat)
def hdl (h : Hd) (c : Nat) (l : List W) (e : Env) (s : St) : RS :=
  match h with
  | .set i w => .nx (e.set i (some w)) s
  | .keep i j => if i < e.length ∧ j < e.length then .nx ((e.set i (some (.exn c l))).set j none) s else .bad
  | .fld i j f => (match xfl c, l with
    | some g, [w] => if g = f ∧ j < e.length then .nx ((e.set i (some w)).set j none) s else .bad
    | _, _ => .bad)
  | .rse c' => .exc c' [] e s
mutual
noncomputable def evS : S → Env → St → RS
  | .set i a, e, s => RS.of e (evE cl mkc mt a e s) fun w s => .nx (e.set i (some w)) s
  | .setT is a, e, s => RS.of e (evE cl mkc mt a e s) fun w s => (match listOf s w with
    | some l => nxO s (setMany is l e)
    | none => .bad)
  | .par is es, e, s => RS.ofL e (evEs cl mkc mt es e s) fun ws s => nxO s (setMany is ws e)
  | .setI o i a, e, s => RS.of e (evE cl mkc mt a e s) fun w s => RS.of e (evE cl mkc mt o e s) fun x s => RS.of e (evE cl mkc mt i e s) fun y s => (match setIW s x y w with
    | some s' => .nx e s'
    | none => .bad)
  | .setF o f a, e, s => RS.of e (evE cl mkc mt a e s) fun w s => RS.of e (evE cl mkc mt o e s) fun x s => (match setFW s x f w with
    | some s' => .nx e s'
    | none => .bad)
  | .ex a, e, s => RS.of e (evE cl mkc mt a e s) fun _ s => .nx e s
  | .ret a, e, s => RS.of e (evE cl mkc mt a e s) fun w s => .ret w s
  | .ite c a b, e, s => RS.of e (evE cl mkc mt c e s) fun w s => (match truth s w with
    | some true => evSs a e s
    | some false => evSs b e s
    | none => .bad)
  | .whl c b, e, s => (lp (fun (es : Env × St) => (match evE cl mkc mt c es.1 es.2 with
    | .ok w s2 => (match truth s2 w with
      | some true => (match evSs b es.1 s2 with
        | .nx e3 s3 => Sum.inl (e3, s3)
        | .ct e3 s3 => Sum.inl (e3, s3)
        | .brk e3 s3 => Sum.inr (.nx e3 s3)
        | r => Sum.inr r)
      | some false => Sum.inr (.nx es.1 s2)
      | none => Sum.inr .bad)
    | .exc c l s2 => Sum.inr (.exc c l es.1 s2)
    | .bad => Sum.inr .bad)) (e, s)).getD .bad
  | .for_ tg it b, e, s => RS.ofW e (evIt cl mkc mt it e s) fun wk s => forL wk.chk tg (evSs b) wk.items e s
  | .brk, e, s => .brk e s
  | .cont, e, s => .ct e s
  | .pass, e, s => .nx e s
  | .rse c es, e, s => RS.ofL e (evEs cl mkc mt es e s) fun ws s => .exc c ws e s
  | .try_ b c h, e, s => (match evSs b e s with
    | .exc c' l e2 s2 => (match xf c' c with
      | some true => hdl xfl h c' l e2 s2
      | some false => .exc c' l e2 s2
      | none => .bad)
    | r => r)
noncomputable def evSs : Ss → Env → St → RS
  | .nil, e, s => .nx e s
  | .cons a r, e, s => (match evS a e s with
    | .nx e2 s2 => evSs r e2 s2
    | q => q)
end
end

/-! ### defs -/
inductive Mode where
  | raw | pure
structure FnD where
  many : Nat
  slots : Nat
  body : Ss
  mode : Mode
structure Gd where
  fns : List FnD
  xf : Nat → Nat → Option Bool
  xfl : Nat → Option Nat

open Classical in
noncomputable def fin (m : Mode) (s : St) (r : RS) : R W :=
  match m with
  | .raw => (match r with
    | .nx _ s2 => .ok .non s2
    | .ret w s2 => .ok w s2
    | .exc c l _ s2 => .exc c l s2
    | _ => .bad)
  | .pure => (match r with
    | .nx _ s2 => if s2.take s.length = s then .ok .non s else .bad
    | .ret w s2 => if s2.take s.length = s then (match freeze s2 s.length w with
      | some w' => .ok w' s
      | none => .bad) else .bad
    | .exc c l _ s2 => if s2.take s.length = s ∧ frzL (fun _ => none) l = some l then .exc c l s else .bad
    | _ => .bad)

/-- C(..): a new instance without fields; its __init__, run by cl, sets them -/
noncomputable def mkI (cl : Nat → List W → St → R W) (c f : Nat) (ws : List W) (s : St) : R W :=
  match cl f (.ref s.length :: ws) (s ++ [.ins c []]) with
  | .ok .non s2 => .ok (.ref s.length) s2
  | .exc k l s2 => .exc k l s2
  | _ => .bad
noncomputable def callB (g : Gd) (cl ci : Nat → List W → St → R W) (f : Nat) (ws : List W) (s : St) : R W :=
  match g.fns[f]? with
  | some d => if ws.length = d.many then
      fin d.mode s (evSs cl (mkI ci) (fun _ _ => none) g.xf g.xfl d.body (ws.map some ++ List.replicate (d.slots - d.many) none) s)
    else .bad
  | none => .bad
noncomputable def callF (g : Gd) : Nat → Nat → List W → St → R W
  | 0 => fun _ _ _ => .bad
  | 1 => callB g (fun _ _ _ => .bad) (fun _ _ _ => .bad)
  | k + 2 => callB g (callF g (k + 1)) (callF g k)
theorem call_zero (g : Gd) : callF g 0 = fun _ _ _ => .bad := by unfold callF; rfl
theorem call_bit (g : Gd) (k : Nat) : callF g (k + 1) = callB g (callF g k) (callF g (k - 1)) := by
  cases k with
  | zero => rw [show callF g (0 + 1) = callB g (fun _ _ _ => .bad) (fun _ _ _ => .bad) by unfold callF; rfl]; rw [show (0 - 1 : Nat) = 0 by rfl, call_zero]
  | succ k => rw [show callF g (k + 1 + 1) = callB g (callF g (k + 1)) (callF g k) by conv => lhs; unfold callF]; rfl
end Px

set_option linter.all false
/-! Px2: does a text of the program say what our small language says? A checker, by names and places. -/
namespace Px
open PySem L2

/-- the names behind the numbers -/
structure Nm where
  /-- defs of the module by number; none: a method -/
  fn : List (Option Str)
  /-- the defaults of a def's last parameters -/
  dfl : List (List W)
  cls : List Str
  con : List (Str × W)
  fld : List Str
  /-- built-in names that the module leaves as they are -/
  free : List Str
  /-- exceptions that are made with nothing -/
  ex0 : List Nat
  /-- exceptions that are made with one thing, which they keep in a field -/
  exf : List (Nat × Nat)
  /-- isinstance of an exception of a class, of another one; of ValueError -/
  ist : List ((Nat × Nat) × Bool)
  isv : List Nat
  /-- the program's own classes, by number: the def of its __init__ -/
  own : List (Nat × Nat)
  /-- (class, method's name): the def -/
  mth : List ((Nat × Str) × Nat)
  /-- constants that are tuples are in -/
  ktup : Bool
  /-- dicts of the module whose keys are texts: nobody changes them -/
  kd : List (Str × List (List Nat × W))

mutual
def same : W → W → Bool
  | .non, .non => true
  | .bl a, .bl b => a == b
  | .int a, .int b => a == b
  | .str a, .str b => a == b
  | .tup a, .tup b => sameL a b
  | .lst a, .lst b => sameL a b
  | _, _ => false
def sameL : List W → List W → Bool
  | [], [] => true
  | x :: xs, y :: ys => same x y && sameL xs ys
  | _, _ => false
end
mutual
theorem same_eq : ∀ {a b : W}, same a b = true → a = b
  | .non, .non, _ => rfl
  | .bl a, .bl b, h => by simp [same] at h; rw [h]
  | .int a, .int b, h => by simp [same] at h; rw [h]
  | .str a, .str b, h => by simp [same] at h; rw [h]
  | .tup a, .tup b, h => by simp only [same] at h; rw [sameL_eq h]
  | .lst a, .lst b, h => by simp only [same] at h; rw [sameL_eq h]
  | .dct _ _, b, h => by cases b <;> simp [same] at h
  | .ref _, b, h => by cases b <;> simp [same] at h
  | .exn _ _, b, h => by cases b <;> simp [same] at h
theorem sameL_eq : ∀ {a b : List W}, sameL a b = true → a = b
  | [], [], _ => rfl
  | x :: xs, y :: ys, h => by
    simp only [sameL, Bool.and_eq_true] at h
    rw [same_eq h.1, sameL_eq h.2]
  | [], _ :: _, h => by simp [sameL] at h
  | _ :: _, [], h => by simp [sameL] at h
end

def kindIs (sc : Scope) (x : Str) (k : NameKind) : Bool := decide (sc.names.lookup x = some k)
def visB (sc : Scope) (x : Str) : Bool := kindIs sc x .local || kindIs sc x .cell || kindIs sc x .free
def locB (sc : Scope) (x : Str) : Bool := kindIs sc x .local || kindIs sc x .cell
def glB (sc : Scope) (x : Str) : Bool := kindIs sc x .globalImplicit
/-- not a name that stands apart -/
def plainN (x : Str) : Bool := !(x == ("__debug__" : Str)) && !(x == ("__classdict__" : Str)) && !(x == ("__name__" : Str)) && !(x == ("super" : Str))
def nameAt (N : List Str) (i : Nat) (x : Str) : Bool := decide (N[i]? = some x)

def opB : Operator → Op2 → Bool
  | .Add, .add => true
  | .Sub, .sub => true
  | .Mult, .mul => true
  | .FloorDiv, .fdiv => true
  | .Mod, .mod => true
  | .Pow, .pow => true
  | _, _ => false
def cmpB : CmpOp → Op2 → Bool
  | .Eq, .eq => true
  | .NotEq, .ne => true
  | .Lt, .lt => true
  | .LtE, .le => true
  | .Gt, .gt => true
  | .GtE, .ge => true
  | .Is, .is_ => true
  | .IsNot, .isn => true
  | .In, .in_ => true
  | .NotIn, .nin => true
  | _, _ => false
def biN : Bi → Str
  | .abs => "abs"
  | .len => "len"
  | .str => "str"
  | .int => "int"
  | .list => "list"
  | .sum => "sum"
  | .min => "min"
  | .max => "max"
  | .any => "any"
  | .all => "all"
  | .divmod => "divmod"
  | .sorted => "sorted"
  | .set_ => "set"
  | .dict => "dict"
/-- the method's name, whose it is -/
def meN : M → Str
  | .append => "append"
  | .extend => "extend"
  | .pop => "pop"
  | .clear => "clear"
  | .split => "split"
  | .partition => "partition"
  | .join => "join"
  | .zfill => "zfill"
  | .count => "count"
  | .setdefault => "setdefault"
  | .get => "get"
  | .items => "items"
  | .update => "update"
  | .index => "index"
  | .replace => "replace"
def tyN : Ty → Option Str
  | .int => some "int"
  | .str => some "str"
  | .bool => some "bool"
  | .tup => some "tuple"
  | .lst => some "list"
  | _ => none
def constB : Const → W → Bool
  | .none, .non => true
  | .bool a, .bl b => a == b
  | .int a, .int b => a == b
  | .str x, .str s => x.cps.toList == s
  | _, _ => false
def lenE : Es → Nat
  | .nil => 0
  | .cons _ r => lenE r + 1
def optB (f : Expr → E → Bool) : Option Expr → Es → Bool
  | none, .nil => true
  | some e, .cons c .nil => f e c
  | _, _ => false
def notSlice : Expr → Bool
  | .Slice .. => false
  | _ => true
def notStar : Expr → Bool
  | .Starred .. => false
  | _ => true
/-- not f() -/
def notCall0 : Expr → Bool
  | .Call (.Name _ _) [] [] _ => false
  | _ => true
/-- pairs of a dict's display -/
def dctB (f : Expr → E → Bool) : List (Option Expr) → List Expr → Es → Bool
  | [], [], .nil => true
  | some k :: ks, v :: vs, .cons a (.cons b r) => f k a && f v b && dctB f ks vs r
  | _, _, _ => false
/-- a plain list of expressions -/
def esB (f : Expr → E → Bool) : List Expr → Es → Bool
  | [], .nil => true
  | e :: r, .cons c cs => notStar e && f e c && esB f r cs
  | _, _ => false
def tgB (sc : Scope) (N : List Str) : List Expr → List Nat → Bool
  | [], [] => true
  | .Name x _ :: r, i :: is => locB sc x && nameAt N i x && tgB sc N r is
  | _, _ => false
def targB (sc : Scope) (N : List Str) : Expr → Tg → Bool
  | .Name x _, .one i => locB sc x && nameAt N i x
  | .Tuple es _ _, .many is => tgB sc N es is
  | _, _ => false
/-- own names of a comprehension's block: those of its target -/
def ownOf (N : List Str) : Tg → List (Str × Nat)
  | .one i => [((N[i]?).getD "", i)]
  | .many is => is.map fun i => ((N[i]?).getD "", i)

section
variable (nm : Nm) (N : List Str)
def fnIs (f : Nat) (x : Str) : Bool := decide (nm.fn[f]? = some (some x))
def conIs (x : Str) (w : W) : Bool := match nm.con.lookup x with
  | some w' => same w' w
  | none => false
def sameT : List (List Nat × W) → List (List Nat × W) → Bool
  | [], [] => true
  | p :: r, q :: t => p.1 == q.1 && same p.2 q.2 && sameT r t
  | _, _ => false
theorem sameT_eq : ∀ {a b : List (List Nat × W)}, sameT a b = true → a = b
  | [], [], _ => rfl
  | p :: r, q :: t, h => by
    simp only [sameT, Bool.and_eq_true, beq_iff_eq] at h
    rw [sameT_eq h.2, Prod.ext h.1.1 (same_eq h.1.2)]
  | [], _ :: _, h => by simp [sameT] at h
  | _ :: _, [], h => by simp [sameT] at h
def kdIs (x : Str) (t : List (List Nat × W)) : Bool := match nm.kd.lookup x with
  | some t' => sameT t' t
  | none => false
theorem kdIs_ok {x : Str} {t : List (List Nat × W)} (h : kdIs nm x t = true) : nm.kd.lookup x = some t := by
  unfold kdIs at h
  split at h
  · rename_i t' e; rw [e, sameT_eq h]
  · cases h
def dflB (f : Nat) (many : Nat) (ds : List W) : Bool := match nm.dfl[f]? with
  | some l => sameL ds (l.drop (l.length - ds.length)) && decide (ds.length ≤ l.length)
  | none => false
def freeB (nm : Nm) (x : Str) : Bool := decide (x ∈ nm.free)
def tyB (nm : Nm) (sc : Scope) : Expr → Ty → Bool
  | .Name x _, t => glB sc x && plainN x && (match t with
    | .cls _ _ _ => false
    | .valueError _ => false
    | t => decide (tyN t = some x) && freeB nm x)
  | _, _ => false
/-- isinstance of an exception -/
def tyXB (nm : Nm) (sc : Scope) : Expr → Ty → Bool
  | .Name x _, .cls c yes no => glB sc x && plainN x && decide (nm.cls[c]? = some x) && yes.all (fun k => decide (nm.ist.lookup (k, c) = some true)) && no.all (fun k => decide (nm.ist.lookup (k, c) = some false))
  | .Name x _, .valueError yes => glB sc x && decide (x = "ValueError") && freeB nm x && yes.all (fun k => decide (k ∈ nm.isv))
  | _, _ => false
def tysB (nm : Nm) (sc : Scope) : List Expr → List Ty → Bool
  | [], [] => true
  | e :: r, t :: ts => tyB nm sc e t && tysB nm sc r ts
  | _, _ => false

def notSet : Expr → Bool
  | .Set .. => false
  | _ => true
def notComp : Expr → Bool
  | .ListComp .. => false
  | .SetComp .. => false
  | .DictComp .. => false
  | _ => true
def notTuple : Expr → Bool
  | .Tuple .. => false
  | _ => true
def starless : List Expr → Bool
  | [] => true
  | e :: r => notStar e && starless r
/-- what is walked -/
def itB (f : Expr → E → Bool) (nm : Nm) (sc : Scope) : Expr → It → Bool
  | .Call (.Name x _) es [] _, .range cs => glB sc x && decide (x = "range") && freeB nm x && esB f es cs && decide (1 ≤ lenE cs) && decide (lenE cs ≤ 3)
  | e, .val c => notSet e && f e c
  | _, _ => false
def ifsB (f : Expr → E → Bool) : List Expr → E → Bool
  | [], .k (.bl true) => true
  | [d], c => f d c
  | _, _ => false

def chkE1 (f : Scope → Expr → E → Bool) : Scope → Expr → E → Bool
  | sc, .Name x _, .v i => visB sc x && nameAt N i x && plainN x
  | sc, .Name x _, .k w => glB sc x && plainN x && conIs nm x w
  | sc, .Constant c _ _, .k w => constB c w
  | sc, .Tuple es _ _, .tup cs => esB (f sc) es cs && decide (lenE cs ≤ 1000)
  | sc, .List es _, .lst _ cs => esB (f sc) es cs && decide (lenE cs ≤ 1000)
  | sc, .BinOp a o b _, .op p x y => opB o p && f sc a x && f sc b y
  | sc, .Compare a [o] [b] _, .op p x y => cmpB o p && f sc a x && f sc b y && !behindInMarks o b
  | sc, .Compare a [o, o'] [b, c] _, .chain p p' x y z => cmpB o p && cmpB o' p' && f sc a x && f sc b y && f sc c z && !behindInMarks o' c
  | sc, .UnaryOp .USub a _, .neg x => f sc a x
  | sc, .UnaryOp .Not a _, .not_ x => f sc a x
  | sc, .BoolOp o [a] _, c => f sc a c
  | sc, .BoolOp .And (a :: b :: r) p, .and_ x y => f sc a x && f sc (.BoolOp .And (b :: r) p) y
  | sc, .BoolOp .Or (a :: b :: r) p, .or_ x y => f sc a x && f sc (.BoolOp .Or (b :: r) p) y
  | sc, .IfExp t a b _, .ite x y z => f sc t x && f sc a y && f sc b z
  | sc, .Subscript a (.Slice lo hi none _) _, .sl _ x y z => f sc a x && optB (f sc) lo y && optB (f sc) hi z
  | sc, .Subscript a i _, .ix x y => notSlice i && f sc a x && f sc i y
  | sc, .Call (.Name nf _) es [] _, .call g cs ds => glB sc nf && plainN nf && fnIs nm g nf && esB (f sc) es cs && dflB nm g (lenE cs) ds
  | sc, .Call (.Name nf _) [a, .Name t p] [] _, .isi x [ty] => glB sc nf && decide (nf = "isinstance") && freeB nm nf && notStar a && f sc a x && (tyB nm sc (.Name t p) ty || tyXB nm sc (.Name t p) ty)
  | sc, .Attribute (.Name y q) fn _, .fld x g ks => f sc (.Name y q) x && decide (nm.fld[g]? = some fn) && ks.all (fun k => decide (nm.exf.lookup k = some g))
  | sc, .Call (.Name nf _) es [] _, .bi _ b cs => glB sc nf && decide (nf = biN b) && freeB nm nf && esB (f sc) es cs && decide (1 ≤ lenE cs)
  | sc, .ListComp elt [⟨tg, iter, ifs, 0⟩] scope _, .lc _ t it c e => itB (f sc) nm sc iter it && blkC N sc scope (ownOf N t) && targB scope N tg t && ifsB (f scope) ifs c && f scope elt e
  | sc, .Call (.Attribute o n ap) es [] p, .meth _ a m cs => decide (n = meN m) && mokA m && notCall0 o && (ap.endLine == p.line) && f sc o a && esB (f sc) es cs && decide (lenE cs < 20)
  | sc, .Call (.Name nf _) [.Call (.Name nr _) [a] [] _] [] _, .rvl _ x => glB sc nf && decide (nf = "list") && freeB nm nf && glB sc nr && decide (nr = "reversed") && freeB nm nr && notStar a && f sc a x
  | sc, .Call (.Name x _) [] [] _, .mkx c .nil => glB sc x && plainN x && decide (nm.cls[c]? = some x) && decide (c ∈ nm.ex0)
  | sc, .Call (.Name x _) [e] [] _, .mkx c (.cons d .nil) => glB sc x && plainN x && decide (nm.cls[c]? = some x) && notStar e && f sc e d && (nm.exf.lookup c).isSome
  | sc, .Dict ks vs _, .dct t ps => dctB (f sc) ks vs ps && decide (ks.length ≤ 15) && (!t || ks.isEmpty)
  | sc, .Call (.Name x _) es [] _, .mk c g cs => glB sc x && plainN x && decide (nm.cls[c]? = some x) && decide (nm.own.lookup c = some g) && esB (f sc) es cs
  | sc, .Call (.Attribute o n ap) es [] p, .mine a c g cs ds => decide (nm.mth.lookup (c, n) = some g) && (nm.own.lookup c).isSome && !decide (n ∈ nm.fld) && notCall0 o && (ap.endLine == p.line) && f sc o a && esB (f sc) es cs && decide (lenE cs < 20) && dflB nm g (lenE cs) ds
  | sc, .Call (.Name nf _) [.Call (.Attribute o n ap) [] [] p] [] _, .sit _ a => glB sc nf && decide (nf = "sorted") && freeB nm nf && decide (n = "items") && notCall0 o && (ap.endLine == p.line) && f sc o a
  | sc, .Compare a [.In] [.Name x p] _, .kin false y t => glB sc x && plainN x && kdIs nm x t && f sc a y && !behindInMarks .In (.Name x p)
  | sc, .Compare a [.NotIn] [.Name x p] _, .kin true y t => glB sc x && plainN x && kdIs nm x t && f sc a y && !behindInMarks .NotIn (.Name x p)
  | sc, .Subscript (.Name x _) i _, .kix t y => glB sc x && plainN x && kdIs nm x t && notSlice i && f sc i y
  | sc, .Call (.Attribute o n ap) [a, b] [] p, .dget x y z => decide (n = "get") && notCall0 o && (ap.endLine == p.line) && notStar a && notStar b && f sc o x && f sc a y && f sc b z
  | sc, .Call (.Attribute o n ap) [a] [] p, .dget x y (.k .non) => decide (n = "get") && notCall0 o && (ap.endLine == p.line) && notStar a && f sc o x && f sc a y
  | sc, .Call (.Attribute o n ap) [a, b] [] p, .sdf x y z => decide (n = "setdefault") && notCall0 o && (ap.endLine == p.line) && notStar a && notStar b && f sc o x && f sc a y && f sc b z
  | _, _, _ => false

def chkE : Nat → Scope → Expr → E → Bool
  | 0 => fun _ _ _ => false
  | n + 1 => chkE1 nm N (chkE n)

/-! ### statements -/
def ssB (f : Stmt → S → Bool) : List Stmt → Ss → Bool
  | [], .nil => true
  | s :: r, .cons t ts => f s t && ssB f r ts
  | _, _ => false
def lineOf : List Expr → Nat
  | e :: _ => e.pos.line
  | [] => 0
/-- a, b = x, y: the stores are exchanged -/
def parB (sc : Scope) : List Expr → List Expr → Bool
  | [.Name x p, .Name y q], [a, b] => kindIs sc x .local && kindIs sc y .local && decide (q.line = p.line) && !decide (x = y) && !([a, b].all (foldedForSure 8)) && !([a, b].all (constantsAlone 8))
  | [.Name x p, .Name y q, .Name z r], [a, b, d] => kindIs sc x .local && kindIs sc y .local && kindIs sc z .local && decide (q.line = p.line) && decide (r.line = p.line) && !decide (x = y) && !decide (x = z) && !decide (y = z) && !([a, b, d].all (foldedForSure 8)) && !([a, b, d].all (constantsAlone 8))
  | _, _ => false
/-- what may stand behind a name's = -/
def asgB : Expr → Bool
  | .ListComp _ [⟨_, _, _, 0⟩] _ _ => true
  | e => notComp e
/-- an except clause -/
def hdB (sc : Scope) : Option Str → List Stmt → Hd → Bool
  | none, [.Assign [.Name x _] (.Constant c _ _) _], .set i w => locB sc x && nameAt N i x && constB c w
  | some y, [.Assign [.Name x _] (.Attribute (.Name y' _) fn _) _], .fld i j f => locB sc x && nameAt N i x && kindIs sc y .local && plainN y && nameAt N j y && decide (y' = y) && decide (nm.fld[f]? = some fn)
  | some y, [.Assign [.Name x _] (.Name y' _) _], .keep i j => locB sc x && nameAt N i x && kindIs sc y .local && plainN y && nameAt N j y && decide (y' = y)
  | _, _, _ => false
def chkS1 (f : Scope → Expr → E → Bool) (g : Stmt → S → Bool) (sc : Scope) : Stmt → S → Bool
  | .Assign [.Name x _] e _, .set i c => locB sc x && nameAt N i x && f sc e c && asgB e
  | .Assign [.Tuple ts _ _] (.Tuple es _ _) _, .par is cs => tgB sc N ts is && parB sc ts es && esB (f sc) es cs
  | .Assign [.Tuple ts _ _] e _, .setT is c => tgB sc N ts is && notTuple e && f sc e c
  | .Expr e _, .ex c => notComp e && f sc e c
  | .Return (some e) _, .ret c => f sc e c
  | .Return none _, .ret (.k .non) => true
  | .If t a b _, .ite c x y => f sc t c && ssB g a x && ssB g b y
  | .While t b [] _, .whl c x => f sc t c && ssB g b x
  | .For tg it b [] _, .for_ t i x => itB (f sc) nm sc it i && targB sc N tg t && ssB g b x
  | .Break _, .brk => true
  | .Continue _, .cont => true
  | .Pass _, .pass => true
  | .Raise (some (.Call (.Name x _) [e] [] _)) none _, .rse c (.cons d .nil) => glB sc x && plainN x && decide (nm.cls[c]? = some x) && notStar e && f sc e d && (nm.exf.lookup c).isSome
  | .Raise (some (.Call (.Name x _) es [] _)) none _, .rse c cs => glB sc x && plainN x && decide (nm.cls[c]? = some x) && esB (f sc) es cs && decide (es.length = 0) && decide (c ∈ nm.ex0)
  | .Try b [.ExceptHandler (some (.Name x _)) y h _] [] [] _, .try_ b' c hd => glB sc x && plainN x && decide (nm.cls[c]? = some x) && ssB g b b' && hdB nm N sc y h hd
  | .Assign [.Subscript o i _] e _, .setI co ci c => notComp e && notSlice i && f sc e c && f sc o co && f sc i ci
  | .Assign [.Attribute (.Name y q) fn _] e _, .setF co g c => notComp e && f sc e c && f sc (.Name y q) co && decide (nm.fld[g]? = some fn)
  | _, _ => false
def chkS (sc : Scope) : Nat → Stmt → S → Bool
  | 0 => fun _ _ => false
  | n + 1 => chkS1 nm N (chkE nm N n) (chkS sc n) sc
end
end Px

set_option linter.all false
set_option maxRecDepth 100000
/-! Px3: what a store, a value of our own stand for in the abstract heap; what is wanted of a run. -/
namespace Px
open PySem PySem.Spec PyProof.Rows L2

theorem sS_len (s : List Nat) : (sS s).length = s.length := by simp [Str.length]
theorem sS_tl (s : List Nat) : (sS s).cps.toList = s := by simp
theorem sS_inj {s t : List Nat} (h : sS s = sS t) : s = t := by
  have e := congrArg (fun z : Str => z.cps.toList) h
  simpa using e
theorem sS_of (x : Str) : sS x.cps.toList = x := by
  obtain ⟨a⟩ := x
  simp

/-- the store's addresses; hid: lists that are being made, nobody's yet -/
structure Rho where
  l : List Addr
  hid : List Addr
def Rho.has (ρ : Rho) (a : Addr) : Prop := a ∈ ρ.l ∨ a ∈ ρ.hid
def Rho.push (ρ : Rho) (p : Addr) : Rho := ⟨ρ.l ++ [p], ρ.hid⟩
/-- what is fixed -/
structure Cfg where
  K : PySem.W.Frag
  A : Nat → Addr
  nm : Nm
  P : Program
  w : World
/-- the context is of this program and world -/
class Pwx (X : Cx) (c : Cfg) : Prop where
  p : X.prog = c.P
  w : X.w = c.w
/-- a dict whose keys are tuples, by what stands in it; as many keys were put as stand there -/
def dtq (c : Cfg) (a : Addr) (xs : List (List Key × Addr × Value)) : HO := .ext fun h => ∃ o es, h.get? a = some o ∧ o.ExactDict ∧ o.data = .dict es xs.length ∧ es.toList = xs.map (entryOfKey (tupleKind (mixKind c.P c.w)))

section
variable (c : Cfg) (ρ : Rho) (H : Hp)
def TupAt (a : Addr) (xs : List V) : Prop :=
  (H a = some (.tup xs) ∧ ¬ ρ.has a) ∨ (c.nm.ktup = true ∧ ∃ (o : Obj) (its : Array Value) (n : Nat), c.K.lookup a = some o ∧ o.cls = .type "tuple" ∧ o.data = .seq its n ∧ its.size ≤ sizeLine ∧ Vals xs its.toList)
/-- an exception that is kept -/
def exq (a : Addr) (cls : Value) (d : Option Addr) : HO := .ext fun h => ∃ o, h.get? a = some o ∧ Zc cls d o ∧ ∃ vs, o.data = .fields vs
/-- what an exception keeps -/
def XdAt (k : Nat) (d : Option Addr) (xs : List V) : Prop :=
  (xs = [] ∧ d = none) ∨ ∃ x dx f, xs = [x] ∧ d = some dx ∧ (∃ g, c.nm.exf.lookup k = some g ∧ c.nm.fld[g]? = some f) ∧ H dx = some (.xd [(f, x)]) ∧ ¬ ρ.has dx
def LstAt (a : Addr) (xs : List V) : Prop :=
  (Rd H a (.lst xs) ∧ ¬ ρ.has a) ∨ ∃ (o : Obj) (its : Array Value) (n : Nat), c.K.lookup a = some o ∧ o.cls = .type "list" ∧ o.dict = none ∧ o.data = .seq its n ∧ its.size ≤ sizeLine ∧ Vals xs its.toList
mutual
def RelW : W → V → Prop
  | .non, v => v = .non
  | .bl b, v => v = .bl b
  | .int i, v => v = .int i
  | .str s, v => v = .str (sS s)
  | .tup l, v => ∃ a xs, v = .ref a ∧ TupAt c ρ H a xs ∧ RelL l xs
  | .lst l, v => ∃ a xs, v = .ref a ∧ LstAt c ρ H a xs ∧ RelL l xs
  | .dct _ _, _ => False
  | .ref n, v => ∃ a, ρ.l[n]? = some a ∧ v = .ref a
  | .exn k l, v => ∃ a d xs, v = .ref a ∧ H a = some (exq a (.ref (c.A k)) d) ∧ ¬ ρ.has a ∧ XdAt c ρ H k d xs ∧ RelL l xs
def RelL : List W → List V → Prop
  | [], vs => vs = []
  | w :: ws, vs => ∃ x xs, vs = x :: xs ∧ RelW w x ∧ RelL ws xs
end
def RelF (fs : List (Nat × W)) (gs : List (Str × V)) : Prop := Paired (fun p q => c.nm.fld[p.1]? = some q.1 ∧ RelW c ρ H p.2 q.2) fs gs
def kyW : W → Option Key
  | .int i => some (.inl i)
  | .str s => some (.inr (sS s))
  | _ => none
def kyL : List W → Option (List Key)
  | [] => some []
  | w :: ws => match kyW w, kyL ws with
    | some k, some ks => some (k :: ks)
    | _, _ => none
def kyT : W → Option (List Key)
  | .tup l => kyL l
  | _ => none
/-- a dict of ours, by what its keys stand for -/
def RelG {κ : Type} (ky : W → Option κ) (l : List (W × W)) (kvs : List (κ × V)) : Prop := Paired (fun p q => ky p.1 = some q.1 ∧ RelW c ρ H p.2 q.2) l kvs
abbrev RelD (l : List (W × W)) (kvs : List (Key × V)) : Prop := RelG c ρ H kyW l kvs
def RelT (l : List (W × W)) (xs : List (List Key × Addr × Value)) : Prop := Paired (fun p q => kyT p.1 = some q.1 ∧ TupAt c ρ H q.2.1 (q.1.map kV) ∧ ∃ v, RelW c ρ H p.2 v ∧ RelV v q.2.2) l xs
def ObjAt (a : Addr) : O → Prop
  | .lst ws => ∃ xs, H a = some (.lst xs) ∧ RelL c ρ H ws xs
  | .dict false l => ∃ kvs, H a = some (.dK kvs) ∧ RelD c ρ H l kvs
  | .dict true l => ∃ xs, H a = some (dtq c a xs) ∧ l.length ≤ line ∧ (a == sysModules) = false ∧ (xs.map (·.1)).Nodup ∧ RelT c ρ H l xs
  | .ins k fs => (c.nm.own.lookup k).isSome = true ∧ ∃ dx gs, H a = some (.ins (c.A k) dx gs) ∧ RelF c ρ H fs gs
/-- no tuple -/
def NT : HO → Prop
  | .tup _ => False
  | _ => True
structure Rel (st : St) : Prop where
  len : ρ.l.length = st.length
  nd : ρ.l.Nodup
  at_ : ∀ (i : Nat) o a, st[i]? = some o → ρ.l[i]? = some a → ObjAt c ρ H a o
  hd : ∀ a ∈ ρ.hid, a ∉ ρ.l ∧ ∃ o, H a = some o ∧ NT o
def REnv (env : Env) (σ : L2.St) : Prop := env.length = σ.length ∧ ∀ (i : Nat) w, env[i]? = some (some w) → ∃ v, σ[i]? = some (some v) ∧ RelW c ρ H w v
end
/-- how addresses and heap may grow -/
structure Ext (ρ : Rho) (H : Hp) (ρ' : Rho) (H' : Hp) : Prop where
  pre : ρ.l <+: ρ'.l
  hid : ρ'.hid = ρ.hid
  keep : ∀ a o, H a = some o → a ∉ ρ.l → H' a = some o
  new : ∀ a ∈ ρ'.l, a ∈ ρ.l ∨ H a = none

section
variable {c : Cfg} {ρ ρ' ρ2 : Rho} {H H' H2 : Hp} {st st' : St}
theorem Ext.refl : Ext ρ H ρ H := ⟨List.prefix_refl _, rfl, fun _ _ h _ => h, fun _ h => .inl h⟩
theorem Ext.outl (x : Ext ρ H ρ' H') {a : Addr} {o : HO} (h : H a = some o) (n : a ∉ ρ.l) : a ∉ ρ'.l := fun m => by
  rcases x.new a m with z | z
  · exact n z
  · rw [h] at z; cases z
theorem Ext.out (x : Ext ρ H ρ' H') {a : Addr} {o : HO} (h : H a = some o) (n : ¬ ρ.has a) : ¬ ρ'.has a := fun m => by
  rcases m with m | m
  · exact x.outl h (fun z => n (.inl z)) m
  · rw [x.hid] at m
    exact n (.inr m)
theorem Ext.keep' (x : Ext ρ H ρ' H') {a : Addr} {o : HO} (h : H a = some o) (n : ¬ ρ.has a) : H' a = some o := x.keep a o h fun z => n (.inl z)
theorem Ext.trans (x : Ext ρ H ρ' H') (y : Ext ρ' H' ρ2 H2) : Ext ρ H ρ2 H2 := by
  refine ⟨x.pre.trans y.pre, y.hid.trans x.hid, fun a o h n => y.keep a o (x.keep a o h n) (x.outl h n), fun a m => ?_⟩
  rcases y.new a m with z | z
  · exact x.new a z
  · by_cases q : a ∈ ρ.l
    · exact .inl q
    · cases e : H a with
      | none => exact .inr rfl
      | some o => rw [x.keep a o e q] at z; cases z
theorem Ext.get (x : Ext ρ H ρ' H') {n : Nat} {a : Addr} (h : ρ.l[n]? = some a) : ρ'.l[n]? = some a := by
  obtain ⟨r, e⟩ := x.pre
  rw [← e, List.getElem?_append_left (by exact (List.getElem?_eq_some_iff.mp h).1)]
  exact h
/-- what stood and is nobody's to change stands -/
structure Tr (ρ : Rho) (H : Hp) (ρ' : Rho) (H' : Hp) : Prop where
  pre : ρ.l <+: ρ'.l
  keep : ∀ a o, H a = some o → ¬ ρ.has a → H' a = some o ∧ ¬ ρ'.has a
theorem Ext.tr (x : Ext ρ H ρ' H') : Tr ρ H ρ' H' := ⟨x.pre, fun _ _ h n => ⟨x.keep' h n, x.out h n⟩⟩
theorem Tr.get (x : Tr ρ H ρ' H') {n : Nat} {a : Addr} (h : ρ.l[n]? = some a) : ρ'.l[n]? = some a := by
  obtain ⟨r, e⟩ := x.pre
  rw [← e, List.getElem?_append_left (by exact (List.getElem?_eq_some_iff.mp h).1)]
  exact h
theorem TupAt.tr {a : Addr} {xs : List V} (h : TupAt c ρ H a xs) (x : Tr ρ H ρ' H') : TupAt c ρ' H' a xs := by
  rcases h with ⟨h, n⟩ | h
  · exact .inl (x.keep _ _ h n)
  · exact .inr h
theorem LstAt.tr {a : Addr} {xs : List V} (h : LstAt c ρ H a xs) (x : Tr ρ H ρ' H') : LstAt c ρ' H' a xs := by
  rcases h with ⟨h | ⟨o, h⟩, n⟩ | h
  · obtain ⟨h1, h2⟩ := x.keep _ _ h n
    exact .inl ⟨.inl h1, h2⟩
  · obtain ⟨h1, h2⟩ := x.keep _ _ h n
    exact .inl ⟨.inr ⟨o, h1⟩, h2⟩
  · exact .inr h
mutual
theorem RelW.tr (x : Tr ρ H ρ' H') : ∀ {w : W} {v : V}, RelW c ρ H w v → RelW c ρ' H' w v
  | .non, _, h => h
  | .bl _, _, h => h
  | .int _, _, h => h
  | .str _, _, h => h
  | .tup l, _, h => by
    simp only [RelW] at h ⊢
    obtain ⟨a, xs, e, t, r⟩ := h
    exact ⟨a, xs, e, t.tr x, RelL.tr x r⟩
  | .lst l, _, h => by
    simp only [RelW] at h ⊢
    obtain ⟨a, xs, e, t, r⟩ := h
    exact ⟨a, xs, e, t.tr x, RelL.tr x r⟩
  | .dct _ _, _, h => by simp only [RelW] at h
  | .ref n, _, h => by
    simp only [RelW] at h ⊢
    obtain ⟨a, e, r⟩ := h
    exact ⟨a, x.get e, r⟩
  | .exn k l, _, h => by
    simp only [RelW] at h ⊢
    obtain ⟨a, d, xs, e, h1, h2, h3, r⟩ := h
    obtain ⟨q1, q2⟩ := x.keep _ _ h1 h2
    refine ⟨a, d, xs, e, q1, q2, ?_, RelL.tr x r⟩
    rcases h3 with h3 | ⟨y, dx, f, e1, e2, e3, e4, e5⟩
    · exact .inl h3
    · obtain ⟨z1, z2⟩ := x.keep _ _ e4 e5
      exact .inr ⟨y, dx, f, e1, e2, e3, z1, z2⟩
theorem RelL.tr (x : Tr ρ H ρ' H') : ∀ {ws : List W} {vs : List V}, RelL c ρ H ws vs → RelL c ρ' H' ws vs
  | [], _, h => h
  | w :: ws, _, h => by
    simp only [RelL] at h ⊢
    obtain ⟨y, ys, e, r, rs⟩ := h
    exact ⟨y, ys, e, RelW.tr x r, RelL.tr x rs⟩
end
theorem RelW.ext (x : Ext ρ H ρ' H') {w : W} {v : V} (h : RelW c ρ H w v) : RelW c ρ' H' w v := RelW.tr x.tr h
theorem RelL.ext (x : Ext ρ H ρ' H') {ws : List W} {vs : List V} (h : RelL c ρ H ws vs) : RelL c ρ' H' ws vs := RelL.tr x.tr h
theorem TupAt.ext {a : Addr} {xs : List V} (h : TupAt c ρ H a xs) (x : Ext ρ H ρ' H') : TupAt c ρ' H' a xs := h.tr x.tr
theorem LstAt.ext {a : Addr} {xs : List V} (h : LstAt c ρ H a xs) (x : Ext ρ H ρ' H') : LstAt c ρ' H' a xs := h.tr x.tr
theorem RelL.nil : RelL c ρ H [] [] := by simp only [RelL]
theorem RelL.cons {w : W} {v : V} {ws : List W} {vs : List V} (h : RelW c ρ H w v) (t : RelL c ρ H ws vs) : RelL c ρ H (w :: ws) (v :: vs) := by
  simp only [RelL]
  exact ⟨v, vs, rfl, h, t⟩
theorem RelL.length : ∀ {ws : List W} {vs : List V}, RelL c ρ H ws vs → ws.length = vs.length
  | [], _, h => by simp only [RelL] at h; subst h; rfl
  | w :: ws, _, h => by
    simp only [RelL] at h
    obtain ⟨y, ys, rfl, _, rs⟩ := h
    rw [List.length_cons, List.length_cons, RelL.length rs]
theorem RelL.get : ∀ {ws : List W} {vs : List V} {i : Nat} {w : W}, RelL c ρ H ws vs → ws[i]? = some w → ∃ v, vs[i]? = some v ∧ RelW c ρ H w v
  | [], _, _, _, _, e => by simp at e
  | x :: ws, _, 0, w, h, e => by
    simp only [RelL] at h
    obtain ⟨y, ys, rfl, r, _⟩ := h
    simp at e; subst e
    exact ⟨y, rfl, r⟩
  | x :: ws, _, i + 1, w, h, e => by
    simp only [RelL] at h
    obtain ⟨y, ys, rfl, _, rs⟩ := h
    obtain ⟨v, e', r⟩ := RelL.get (i := i) rs (by simpa using e)
    exact ⟨v, by simpa using e', r⟩
theorem RelL.append : ∀ {ws us : List W} {vs zs : List V}, RelL c ρ H ws vs → RelL c ρ H us zs → RelL c ρ H (ws ++ us) (vs ++ zs)
  | [], _, _, _, h, t => by simp only [RelL] at h; subst h; exact t
  | w :: ws, _, _, _, h, t => by
    simp only [RelL] at h
    obtain ⟨y, ys, rfl, r, rs⟩ := h
    exact RelL.cons r (RelL.append rs t)
theorem RelL.take : ∀ {ws : List W} {vs : List V} (n : Nat), RelL c ρ H ws vs → RelL c ρ H (ws.take n) (vs.take n)
  | _, _, 0, _ => by simpa using RelL.nil
  | [], _, n + 1, h => by simp only [RelL] at h; subst h; simpa using RelL.nil
  | w :: ws, _, n + 1, h => by
    simp only [RelL] at h
    obtain ⟨y, ys, rfl, r, rs⟩ := h
    exact RelL.cons r (RelL.take n rs)
theorem RelL.drop : ∀ {ws : List W} {vs : List V} (n : Nat), RelL c ρ H ws vs → RelL c ρ H (ws.drop n) (vs.drop n)
  | _, _, 0, h => h
  | [], _, n + 1, h => by simp only [RelL] at h; subst h; simpa using RelL.nil
  | w :: ws, _, n + 1, h => by
    simp only [RelL] at h
    obtain ⟨y, ys, rfl, r, rs⟩ := h
    exact RelL.drop n rs
theorem RelL.cut {ws : List W} {vs : List V} (h : RelL c ρ H ws vs) (lo hi : Option Int) : RelL c ρ H (Px.cut ws lo hi) (cutV vs lo hi) := by
  unfold Px.cut cutV
  rw [h.length]
  exact (h.drop _).take _
theorem RelF.tr (x : Tr ρ H ρ' H') {fs : List (Nat × W)} {gs : List (Str × V)} (h : RelF c ρ H fs gs) : RelF c ρ' H' fs gs := Paired.mapP h fun _ _ z => ⟨z.1, RelW.tr x z.2⟩
theorem RelG.tr {κ : Type} {ky : W → Option κ} (x : Tr ρ H ρ' H') {fs : List (W × W)} {gs : List (κ × V)} (h : RelG c ρ H ky fs gs) : RelG c ρ' H' ky fs gs := Paired.mapP h fun _ _ z => ⟨z.1, RelW.tr x z.2⟩
theorem RelD.tr (x : Tr ρ H ρ' H') {fs : List (W × W)} {gs : List (Key × V)} (h : RelD c ρ H fs gs) : RelD c ρ' H' fs gs := RelG.tr x h
theorem RelT.tr (x : Tr ρ H ρ' H') {l : List (W × W)} {xs : List (List Key × Addr × Value)} (h : RelT c ρ H l xs) : RelT c ρ' H' l xs := Paired.mapP h fun _ _ z => ⟨z.1, z.2.1.tr x, let ⟨v, r, q⟩ := z.2.2; ⟨v, RelW.tr x r, q⟩⟩
theorem ObjAt.nt {a : Addr} {o : O} (h : ObjAt c ρ H a o) : ∃ u, H a = some u ∧ NT u := by
  cases o with
  | lst ws => obtain ⟨xs, e, _⟩ := h; exact ⟨_, e, trivial⟩
  | dict t l =>
    cases t with
    | false => obtain ⟨kvs, e, _⟩ := h; exact ⟨_, e, trivial⟩
    | true => obtain ⟨xs, e, _⟩ := h; exact ⟨_, e, trivial⟩
  | ins k fs => obtain ⟨_, dx, gs, e, _⟩ := h; exact ⟨_, e, trivial⟩
theorem ObjAt.some_ {a : Addr} {o : O} (h : ObjAt c ρ H a o) : ∃ u, H a = some u := let ⟨u, e, _⟩ := h.nt; ⟨u, e⟩
theorem ObjAt.tr {a : Addr} {o : O} (h : ObjAt c ρ H a o) (x : Tr ρ H ρ' H') (e : H' a = H a) : ObjAt c ρ' H' a o := by
  cases o with
  | lst ws =>
    obtain ⟨xs, e1, r⟩ := h
    exact ⟨xs, by rw [e]; exact e1, r.tr x⟩
  | dict t l =>
    cases t with
    | false =>
      obtain ⟨kvs, e1, r⟩ := h
      exact ⟨kvs, by rw [e]; exact e1, RelG.tr x r⟩
    | true =>
      obtain ⟨xs, e1, hl, hs, hn, r⟩ := h
      exact ⟨xs, by rw [e]; exact e1, hl, hs, hn, r.tr x⟩
  | ins k fs =>
    obtain ⟨hk, dx, gs, e1, r⟩ := h
    exact ⟨hk, dx, gs, by rw [e]; exact e1, r.tr x⟩
theorem ObjAt.ext {a : Addr} {o : O} (h : ObjAt c ρ H a o) (x : Ext ρ H ρ' H') (e : H' a = H a) : ObjAt c ρ' H' a o := h.tr x.tr e
theorem Rel.outl (r : Rel c ρ H st) {p : Addr} (h : H p = none) : p ∉ ρ.l := fun m => by
  obtain ⟨i, hi, e⟩ := List.getElem_of_mem m
  have e1 : ρ.l[i]? = some p := by rw [List.getElem?_eq_getElem hi, e]
  have hi2 : i < st.length := by rw [← r.len]; exact hi
  obtain ⟨u, q⟩ := (r.at_ i st[i] p (List.getElem?_eq_getElem hi2) e1).some_
  rw [h] at q; cases q
theorem Rel.out (r : Rel c ρ H st) {p : Addr} (h : H p = none) : ¬ ρ.has p := fun m => by
  rcases m with m | m
  · exact r.outl h m
  · obtain ⟨_, o, e, _⟩ := r.hd p m
    rw [h] at e; cases e
/-- a tuple is nobody's to change -/
theorem Rel.tup_out (r : Rel c ρ H st) {p : Addr} {xs : List V} (h : H p = some (.tup xs)) : ¬ ρ.has p := fun m => by
  rcases m with m | m
  · obtain ⟨i, hi, e⟩ := List.getElem_of_mem m
    have e1 : ρ.l[i]? = some p := by rw [List.getElem?_eq_getElem hi, e]
    have hi2 : i < st.length := by rw [← r.len]; exact hi
    obtain ⟨u, q, n⟩ := (r.at_ i st[i] p (List.getElem?_eq_getElem hi2) e1).nt
    rw [h] at q; cases q
    exact n
  · obtain ⟨_, o, e, n⟩ := r.hd p m
    rw [h] at e; cases e
    exact n
theorem Rel.at_n (r : Rel c ρ H st) {n : Nat} {o : O} (h : st[n]? = some o) : ∃ a, ρ.l[n]? = some a ∧ ObjAt c ρ H a o := by
  have hn : n < ρ.l.length := by rw [r.len]; exact (List.getElem?_eq_some_iff.mp h).1
  exact ⟨ρ.l[n], List.getElem?_eq_getElem hn, r.at_ n o _ h (List.getElem?_eq_getElem hn)⟩
/-- something new that nobody of the store knows -/
theorem Ext.fresh {p : Addr} {o : HO} (h : H p = none) : Ext ρ H ρ (upd H p o) := by
  refine ⟨List.prefix_refl _, rfl, fun a u e n => ?_, fun _ m => .inl m⟩
  rw [upd_ne (ne_of_none e h)]
  exact e
theorem Rel.fresh (r : Rel c ρ H st) {p : Addr} {o : HO} (h : H p = none) : Rel c ρ (upd H p o) st := by
  refine ⟨r.len, r.nd, fun i u a e1 e2 => (r.at_ i u a e1 e2).ext (Ext.fresh h) ?_, fun a m => ?_⟩
  · obtain ⟨z, q⟩ := (r.at_ i u a e1 e2).some_
    exact upd_ne (ne_of_none q h)
  · obtain ⟨n, z, q, nt⟩ := r.hd a m
    exact ⟨n, z, by rw [upd_ne (ne_of_none q h)]; exact q, nt⟩
/-- something new in the store -/
theorem Ext.push {p : Addr} {o : HO} (h : H p = none) : Ext ρ H (ρ.push p) (upd H p o) := by
  refine ⟨List.prefix_append _ _, rfl, fun a u e n => ?_, fun a m => ?_⟩
  · rw [upd_ne (ne_of_none e h)]
    exact e
  · rcases List.mem_append.mp m with z | z
    · exact .inl z
    · simp at z; subst z; exact .inr h
/-- p becomes the store's next -/
theorem Rel.pushed (r : Rel c ρ H st) {H' : Hp} {p : Addr} {u : O} (np : p ∉ ρ.l) (nh : p ∉ ρ.hid) (x : Ext ρ H (ρ.push p) H') (same : ∀ a ∈ ρ.l, H' a = H a) (q : ObjAt c (ρ.push p) H' p u) : Rel c (ρ.push p) H' (st ++ [u]) := by
  refine ⟨by show (ρ.l ++ [p]).length = _; rw [List.length_append, List.length_append, r.len, List.length_cons, List.length_cons]; rfl, ?_, fun i w a e1 e2 => ?_, fun a m => ?_⟩
  · refine List.nodup_append.mpr ⟨r.nd, by simp, fun x hx y hy => ?_⟩
    simp at hy; subst hy
    intro z; subst z
    exact np hx
  · have e2 : (ρ.l ++ [p])[i]? = some a := e2
    by_cases hi : i < st.length
    · have hi2 : i < ρ.l.length := by rw [r.len]; exact hi
      rw [List.getElem?_append_left hi] at e1
      rw [List.getElem?_append_left hi2] at e2
      exact (r.at_ i w a e1 e2).ext x (same a (List.mem_of_getElem? e2))
    · have hi2 : ρ.l.length ≤ i := by rw [r.len]; omega
      rw [List.getElem?_append_right (by omega)] at e1
      rw [List.getElem?_append_right hi2] at e2
      have l1 : i - st.length = 0 := by
        have z := (List.getElem?_eq_some_iff.mp e1).1
        simp at z; omega
      have l2 : i - ρ.l.length = 0 := by rw [r.len]; exact l1
      rw [l1] at e1
      rw [l2] at e2
      simp at e1 e2
      subst e1 e2
      exact q
  · obtain ⟨n, z, e, nt⟩ := r.hd a m
    refine ⟨fun hm => ?_, z, x.keep a z e n, nt⟩
    rcases List.mem_append.mp hm with y | y
    · exact n y
    · simp at y; subst y; exact nh m
theorem Rel.push (r : Rel c ρ H st) {p : Addr} {o : HO} {u : O} (h : H p = none) (q : ObjAt c (ρ.push p) (upd H p o) p u) : Rel c (ρ.push p) (upd H p o) (st ++ [u]) := by
  refine r.pushed (r.outl h) (fun m => r.out h (.inr m)) (Ext.push h) (fun a m => upd_ne fun z => ?_) q
  subst z
  exact r.outl h m
/-- something in the store is changed -/
theorem Ext.write {n : Nat} {a : Addr} {o : HO} (e : ρ.l[n]? = some a) : Ext ρ H ρ (upd H a o) := by
  refine ⟨List.prefix_refl _, rfl, fun b u e1 n1 => ?_, fun _ m => .inl m⟩
  have ne : b ≠ a := fun z => by subst z; exact n1 (List.mem_of_getElem? e)
  rw [upd_ne ne]
  exact e1
theorem Rel.write (r : Rel c ρ H st) {n : Nat} {a : Addr} {o : HO} {u : O} (e : ρ.l[n]? = some a) (q : ObjAt c ρ (upd H a o) a u) : Rel c ρ (upd H a o) (st.set n u) := by
  refine ⟨by rw [List.length_set]; exact r.len, r.nd, fun i w b e1 e2 => ?_, fun b m => ?_⟩
  · by_cases hi : i = n
    · subst hi
      rw [e] at e2; cases e2
      have hl : i < st.length := by rw [← r.len]; exact (List.getElem?_eq_some_iff.mp e).1
      rw [List.getElem?_set_self hl] at e1
      cases e1
      exact q
    · rw [List.getElem?_set_ne (Ne.symm hi)] at e1
      have ne : b ≠ a := by
        intro z; subst z
        exact hi ((List.getElem?_inj (List.getElem?_eq_some_iff.mp e2).1 r.nd).mp (e2.trans e.symm))
      exact (r.at_ i w b e1 e2).ext (Ext.write e) (upd_ne ne)
  · obtain ⟨n1, z, q1, nt⟩ := r.hd b m
    have ne : b ≠ a := fun z => by subst z; exact n1 (List.mem_of_getElem? e)
    exact ⟨n1, z, by rw [upd_ne ne]; exact q1, nt⟩
theorem REnv.tr {env : Env} {σ : L2.St} (h : REnv c ρ H env σ) (x : Tr ρ H ρ' H') : REnv c ρ' H' env σ :=
  ⟨h.1, fun i w e => let ⟨v, e1, r⟩ := h.2 i w e; ⟨v, e1, r.tr x⟩⟩
theorem REnv.ext {env : Env} {σ : L2.St} (h : REnv c ρ H env σ) (x : Ext ρ H ρ' H') : REnv c ρ' H' env σ := h.tr x.tr
/-! a list that is being made -/
def Rho.hide (ρ : Rho) (D : Addr) : Rho := ⟨ρ.l, D :: ρ.hid⟩
theorem Tr.hide {D : Addr} {o : HO} (h : H D = none) : Tr ρ H (ρ.hide D) (upd H D o) := by
  refine ⟨List.prefix_refl _, fun a u e n => ?_⟩
  have ne := ne_of_none e h
  refine ⟨by rw [upd_ne ne]; exact e, fun m => ?_⟩
  rcases m with m | m
  · exact n (.inl m)
  · rcases List.mem_cons.mp m with z | z
    · exact ne z
    · exact n (.inr z)
theorem Tr.over {D : Addr} {o : HO} (h : D ∈ ρ.hid) : Tr ρ H ρ (upd H D o) := by
  refine ⟨List.prefix_refl _, fun a u e n => ?_⟩
  have ne : a ≠ D := fun z => by subst z; exact n (.inr h)
  exact ⟨by rw [upd_ne ne]; exact e, n⟩
theorem Tr.unhide {D : Addr} : Tr (ρ.hide D) H ρ H :=
  ⟨List.prefix_refl _, fun a u e n => ⟨e, fun m => n (m.elim .inl fun z => .inr (List.mem_cons_of_mem _ z))⟩⟩
theorem Tr.unpush {D : Addr} : Tr (ρ.hide D) H (ρ.push D) H := by
  refine ⟨List.prefix_append _ _, fun a u e n => ⟨e, fun m => ?_⟩⟩
  rcases m with m | m
  · rcases List.mem_append.mp m with z | z
    · exact n (.inl z)
    · simp at z; subst z; exact n (.inr List.mem_cons_self)
  · exact n (.inr (List.mem_cons_of_mem _ m))
theorem Rel.hide (r : Rel c ρ H st) {D : Addr} {o : HO} (h : H D = none) (nt : NT o := by trivial) : Rel c (ρ.hide D) (upd H D o) st := by
  refine ⟨r.len, r.nd, fun i u a e1 e2 => ?_, fun a m => ?_⟩
  · obtain ⟨z, q⟩ := (r.at_ i u a e1 e2).some_
    exact (r.at_ i u a e1 e2).tr (Tr.hide h) (upd_ne (ne_of_none q h))
  · rcases List.mem_cons.mp m with z | z
    · subst z; exact ⟨r.outl h, o, upd_same, nt⟩
    · obtain ⟨n, z, q, nt'⟩ := r.hd a z
      exact ⟨n, z, by rw [upd_ne (ne_of_none q h)]; exact q, nt'⟩
theorem Rel.over (r : Rel c ρ H st) {D : Addr} {o : HO} (h : D ∈ ρ.hid) (nt : NT o := by trivial) : Rel c ρ (upd H D o) st := by
  have n := (r.hd D h).1
  refine ⟨r.len, r.nd, fun i u a e1 e2 => (r.at_ i u a e1 e2).tr (Tr.over h) (upd_ne fun z => ?_), fun a m => ?_⟩
  · subst z; exact n (List.mem_of_getElem? e2)
  · by_cases e : a = D
    · subst e; exact ⟨n, o, upd_same, nt⟩
    · obtain ⟨n', z, q, nt'⟩ := r.hd a m
      exact ⟨n', z, by rw [upd_ne e]; exact q, nt'⟩
theorem Rel.unhide {D : Addr} (r : Rel c (ρ.hide D) H st) : Rel c ρ H st :=
  ⟨r.len, r.nd, fun i u a e1 e2 => (r.at_ i u a e1 e2).tr Tr.unhide rfl, fun a m => r.hd a (List.mem_cons_of_mem _ m)⟩
theorem Ext.unhide {D : Addr} (x : Ext (ρ.hide D) H ρ' H') : ρ' = (Rho.mk ρ'.l ρ.hid).hide D ∧ Ext ρ H ⟨ρ'.l, ρ.hid⟩ H' := by
  obtain ⟨l, hd⟩ := ρ'
  have e : hd = D :: ρ.hid := x.hid
  subst e
  exact ⟨rfl, x.pre, rfl, x.keep, x.new⟩
theorem REnv.set {env : Env} {σ : L2.St} (h : REnv c ρ H env σ) (i : Nat) {w : W} {v : V} (r : RelW c ρ H w v) : REnv c ρ H (env.set i (some w)) (σ.set i (some v)) := by
  refine ⟨by rw [List.length_set, List.length_set, h.1], fun j u e => ?_⟩
  by_cases hj : i = j
  · subst hj
    by_cases hl : i < env.length
    · rw [List.getElem?_set_self hl] at e
      cases e
      exact ⟨v, List.getElem?_set_self (by rw [← h.1]; exact hl), r⟩
    · rw [List.getElem?_eq_none (by simpa using hl)] at e; cases e
  · rw [List.getElem?_set_ne hj] at e ⊢
    exact h.2 j u e
theorem REnv.clear {env : Env} {σ : L2.St} (h : REnv c ρ H env σ) (i : Nat) : REnv c ρ H (env.set i none) (σ.set i none) := by
  refine ⟨by rw [List.length_set, List.length_set, h.1], fun j u e => ?_⟩
  by_cases hj : i = j
  · subst hj
    by_cases hl : i < env.length
    · rw [List.getElem?_set_self hl] at e; cases e
    · rw [List.getElem?_eq_none (by simpa using hl)] at e; cases e
  · rw [List.getElem?_set_ne hj] at e ⊢
    exact h.2 j u e
end

/-! ### to the layer's own readings -/
section
variable {c : Cfg} {ρ : Rho} {H : Hp} {a : Addr} {xs : List V}
theorem TupAt.sq (h : TupAt c ρ H a xs) : SqT c.K H a xs := by
  rcases h with ⟨h, _⟩ | ⟨_, h⟩
  · exact .inl (.inl h)
  · exact .inr h
theorem LstAt.sq (h : LstAt c ρ H a xs) : SqL c.K H a xs := by
  rcases h with ⟨h, _⟩ | h
  · exact .inl h
  · exact .inr h
theorem RelW.tup_new {p : Addr} {l : List W} (r : RelL c ρ H l xs) (h : H p = none) (n : ¬ ρ.has p) : RelW c ρ (upd H p (.tup xs)) (.tup l) (.ref p) := by
  simp only [RelW]
  exact ⟨p, xs, rfl, .inl ⟨upd_same, n⟩, r.ext (Ext.fresh h)⟩
theorem RelW.lst_new {p : Addr} {l : List W} (r : RelL c ρ H l xs) (h : H p = none) (n : ¬ ρ.has p) : RelW c ρ (upd H p (.lst xs)) (.lst l) (.ref p) := by
  simp only [RelW]
  exact ⟨p, xs, rfl, .inl ⟨.inl upd_same, n⟩, r.ext (Ext.fresh h)⟩
theorem RelW.ref_new {p : Addr} {st : St} {o : HO} (r : Rel c ρ H st) : RelW c (ρ.push p) (upd H p o) (.ref st.length) (.ref p) := by
  simp only [RelW]
  refine ⟨p, ?_, rfl⟩
  show (ρ.l ++ [p])[st.length]? = some p
  rw [← r.len, List.getElem?_append_right (Nat.le_refl _)]
  simp
end

/-! ### what is wanted -/
/-- how an exception of ours lies -/
def RelX (c : Cfg) (ρ : Rho) (H : Hp) (k : Nat) (l : List W) (cls : Value) (d : Option Addr) : Prop :=
  cls = .ref (c.A k) ∧ ((l = [] ∧ d = none) ∨ ∃ w v dx, l = [w] ∧ d = some dx ∧ RelW c ρ H w v ∧ ∃ f, (∃ g, c.nm.exf.lookup k = some g ∧ c.nm.fld[g]? = some f) ∧ H dx = some (.xd [(f, v)]) ∧ ¬ ρ.has dx)
section
variable (c : Cfg) (Wx : XK) (ρ : Rho) (H : Hp)
def Post {α : Type} (r : R α) (Q : α → St → Rho → Hp → Prop) : Prop :=
  match r with
  | .ok w st' => ∀ ρ' H', Ext ρ H ρ' H' → Rel c ρ' H' st' → Q w st' ρ' H'
  | .exc k l st' => ∀ ρ' H' cls d, Ext ρ H ρ' H' → Rel c ρ' H' st' → RelX c ρ' H' k l cls d → Wx cls d H'
  | .bad => False
end
section
variable {c : Cfg} {Wx : XK} {ρ : Rho} {H : Hp} {α β : Type}
theorem Post.bind {r : R α} {f : α → St → R β} {Q : β → St → Rho → Hp → Prop} (h : Post c Wx ρ H (r.bind f) Q) : Post c Wx ρ H r fun w st' ρ' H' => Post c Wx ρ' H' (f w st') Q := by
  cases r with
  | bad => exact h
  | exc k l s => exact h
  | ok a s =>
    intro ρ1 H1 x r1
    have h : Post c Wx ρ H (f a s) Q := h
    show Post c Wx ρ1 H1 (f a s) Q
    cases e : f a s with
    | bad => rw [e] at h; exact h
    | exc k l s2 => rw [e] at h; exact fun ρ2 H2 cls d y r2 z => h ρ2 H2 cls d (x.trans y) r2 z
    | ok b s2 => rw [e] at h; exact fun ρ2 H2 y r2 => h ρ2 H2 (x.trans y) r2
theorem Post.imp {r : R α} {Q Q' : α → St → Rho → Hp → Prop} (h : Post c Wx ρ H r Q) (k : ∀ w st' ρ' H', r = .ok w st' → Ext ρ H ρ' H' → Rel c ρ' H' st' → Q w st' ρ' H' → Q' w st' ρ' H') : Post c Wx ρ H r Q' := by
  cases r with
  | bad => exact h
  | exc _ _ _ => exact h
  | ok a s => exact fun ρ1 H1 x r1 => k _ _ _ _ rfl x r1 (h ρ1 H1 x r1)
theorem Post.here {w : α} {st : St} {Q : α → St → Rho → Hp → Prop} (h : Post c Wx ρ H (.ok w st) Q) (r : Rel c ρ H st) : Q w st ρ H := h ρ H Ext.refl r
end
/-- the wish of a value -/
abbrev QV (c : Cfg) (Q : VK) : W → St → Rho → Hp → Prop := fun w _ ρ' H' => ∀ v, RelW c ρ' H' w v → Q v H'
abbrev QVs (c : Cfg) (Q : List V → Hp → Prop) : List W → St → Rho → Hp → Prop := fun ws _ ρ' H' => ∀ vs, RelL c ρ' H' ws vs → Q vs H'
def tE (c : Cfg) (Wx : WX) (ev : Env → St → R W) : TE := fun σ H Q => ∃ ρ st env, Rel c ρ H st ∧ REnv c ρ H env σ ∧ Post c (fun k d H' => Wx k d σ H') ρ H (ev env st) (QV c Q)
def tEs (c : Cfg) (Wx : WX) (ev : Env → St → R (List W)) : TA := fun σ H Q => ∃ ρ st env, Rel c ρ H st ∧ REnv c ρ H env σ ∧ Post c (fun k d H' => Wx k d σ H') ρ H (ev env st) (QVs c Q)
def tT (c : Cfg) (Wx : WX) (ev : Env → St → R W) : TT := fun σ H Q => ∃ ρ st env, Rel c ρ H st ∧ REnv c ρ H env σ ∧
  Post c (fun k d H' => Wx k d σ H') ρ H (ev env st) (fun w st' ρ' H' => ∃ b, truth st' w = some b ∧ Q b H')
theorem PE.weak {X : Cx} {e : Expr} {t t' : TE} (h : PE X e t) (k : ∀ σ H Q, t' σ H Q → t σ H Q) : PE X e t' := ⟨fun pins s σ H Q I q => h.run pins s σ H Q I (k σ H Q q)⟩
theorem PT.weak {X : Cx} {e : Expr} {t t' : TT} (h : PT X e t) (k : ∀ σ H Q, t' σ H Q → t σ H Q) : PT X e t' := ⟨fun pins s σ H Q I q => h.run pins s σ H Q I (k σ H Q q)⟩
theorem PA.weak {X : Cx} {e : List Expr} {t t' : TA} (h : PA X e t) (k : ∀ σ H Q, t' σ H Q → t σ H Q) : PA X e t' := ⟨fun pos pins s σ H Q I q => h.run pos pins s σ H Q I (k σ H Q q)⟩
end Px

set_option linter.all false
set_option maxRecDepth 100000
/-! Px4: the operators and built-ins of our own by the layer's rules. -/
namespace Px
open PySem PySem.Spec PyProof.Rows L2

/-- what is asked of an operation on two values -/
def rOp (c : Cfg) (f : W → W → St → R W) : R2 := fun x y H Q => ∃ ρ st w u, Rel c ρ H st ∧ RelW c ρ H w x ∧ RelW c ρ H u y ∧ Post c (fun _ _ _ => False) ρ H (f w u st) (QV c Q)
theorem QV.at {c : Cfg} {Q : VK} {ρ : Rho} {H : Hp} {st : St} {w : W} {v : V} (h : Post c (fun _ _ _ => False) ρ H (.ok w st) (QV c Q)) (r : Rel c ρ H st) (rw' : RelW c ρ H w v) : Q v H := Post.here h r v rw'

/-- two lists are put together, whatever their slots -/
theorem addL {l b : Addr} {us ws : Array Value} {n m : Nat} {p q : Array (Option Value)} (hz : us.size + ws.size ≤ sizeLine) :
    Meets (Builtin.«list.__add__» ⟨[.ref l, .ref b], []⟩) (fun _ R s => s.heap.get? l = some ⟨.type "list", none, .seq us n, p⟩ ∧ s.heap.get? b = some ⟨.type "list", none, .seq ws m, q⟩ ∧
      R (.ok (.ret (.ref s.heap.objs.size))) { s with heap := s.heap.push { cls := .type "list", data := .seq (us ++ ws) }, toks := s.toks }) :=
  .of_wp fun prog w A R s h => by
    obtain ⟨hp, g, d, tk, os⟩ := s
    obtain ⟨h1, h2, h3⟩ := h
    have f1 := AutoSeq1.idx_int
    have f2 := AutoSeq1.sub_tuple_tuple
    have f3 := AutoSeq1.sub_list_list
    have f4 := AutoSeq1.sub_tuple_list
    have f5 := AutoSeq1.sub_list_tuple
    wp_walk using AutoSeq1.wpAny_loadPart' h1, AutoSeq1.wpAny_loadPart' h2
    exact ⟨_, rfl, h3⟩
theorem IsP.add {prog : Program} {w : World} {A : Around} {E : Value → Shared → Prop} {s : Shared} {l b : Addr} {us ws : Array Value} {Q : Value → Shared → Prop} (h1 : PlainL s.heap l us) (h2 : PlainL s.heap b ws) (hz : us.size + ws.size ≤ sizeLine)
    (h : Q (.ref s.heap.objs.size) { s with heap := s.heap.push { cls := .type "list", data := .seq (us ++ ws) } }) : wpAny (model prog w) A (binaryOp .Add (.ref l) (.ref b)) Q E s := by
  obtain ⟨⟨c1, d1, t1, p⟩, n, e1, q1, q2, q3⟩ := h1
  obtain ⟨⟨c2, d2, t2, q⟩, m, e2, q4, q5, q6⟩ := h2
  dsimp only at q1 q2 q3 q4 q5 q6
  subst q1 q2 q3 q4 q5 q6
  exact concat_meets ⟨_, e1, rfl⟩ ⟨_, e2, rfl⟩ noFill_list_add seq_list_add F.slot_list_add F.entry_list_add (F.args_list_add_2 _ _) (addL hz) ⟨e1, e2, h⟩
section
variable {X : Cx} {c : Cfg}
theorem relS_eq {ρ : Rho} {H : Hp} {s : List Nat} {v : V} (h : RelW c ρ H (.str s) v) : v = .str (sS s) := by simpa only [RelW] using h
theorem rel_int {ρ : Rho} {H : Hp} {i : Int} {v : V} (h : RelW c ρ H (.int i) v) : v = .int i := by simpa only [RelW] using h
theorem rel_bl {ρ : Rho} {H : Hp} {b : Bool} {v : V} (h : RelW c ρ H (.bl b) v) : v = .bl b := by simpa only [RelW] using h
theorem rel_non {ρ : Rho} {H : Hp} {v : V} (h : RelW c ρ H .non v) : v = .non := by simpa only [RelW] using h
theorem of_int {ρ : Rho} {H : Hp} (i : Int) : RelW c ρ H (.int i) (.int i) := by simp only [RelW]
theorem of_bl {ρ : Rho} {H : Hp} (b : Bool) : RelW c ρ H (.bl b) (.bl b) := by simp only [RelW]
theorem of_non {ρ : Rho} {H : Hp} : RelW c ρ H .non .non := by simp only [RelW]
theorem of_str {ρ : Rho} {H : Hp} (s : List Nat) : RelW c ρ H (.str s) (.str (sS s)) := by simp only [RelW]
theorem sS_append (a b : List Nat) : sS a ++ sS b = sS (a ++ b) := TL.ext_tl (by rw [TL.tl_append])

theorem lstOf_ok0 {ρ : Rho} {H : Hp} {st : St} {w : W} {x : V} {l : List W} (r : Rel c ρ H st) (r1 : RelW c ρ H w x) (h : lstOf st w = some l) : ∃ a xs, x = .ref a ∧ RelL c ρ H l xs ∧ SqL c.K H a xs := by
  cases w with
  | lst l' =>
    simp only [RelW] at r1
    obtain ⟨a, xs, rfl, t, rs⟩ := r1
    cases h
    exact ⟨a, xs, rfl, rs, t.sq⟩
  | ref n =>
    simp only [RelW] at r1
    obtain ⟨a, e, rfl⟩ := r1
    have h : (match st[n]? with
      | some (.lst l) => some l
      | _ => none) = some l := h
    split at h
    · rename_i l' e2
      cases h
      obtain ⟨xs, e3, rs⟩ := r.at_ n _ a e2 e
      exact ⟨a, xs, rfl, rs, .inl (.inl e3)⟩
    · cases h
  | _ => cases h
/-- list + list, whatever lists -/
def rCat2 (K : PySem.W.Frag) : R2 := fun x y H Q => ∃ l b xs zs, x = .ref l ∧ y = .ref b ∧ SqL K H l xs ∧ SqL K H b zs ∧ xs.length + zs.length ≤ sizeLine ∧ ∀ p, H p = none → Q (.ref p) (upd H p (.lst (xs ++ zs)))
theorem op_cat2 : OpR X (binaryOp .Add) (rCat2 X.K) := by
  intro pins s σ H x y v u Q I hx hy h
  obtain ⟨a, b, us, ws, rfl, rfl, h1, h2, hl, q⟩ := h
  cases hx
  cases hy
  obtain ⟨is, r, pl, z⟩ := I.list h1
  obtain ⟨js, r2, pl2, z2⟩ := I.list h2
  have l1 := r.length
  have l2 := r2.length
  refine IsP.add pl pl2 (by rw [List.size_toArray, List.size_toArray]; omega) ?_
  have e : is.toArray ++ js.toArray = (is ++ js).toArray := by simp
  rw [e]
  exact ⟨.ref _, _, I.lnew (t' := s.toks) (r.append r2) (by rw [List.length_append]; omega), rfl, q _ I.fresh⟩
theorem add_ok (hK : X.K = c.K) : OpR X (binaryOp .Add) (rOp c fun x y st => opAdd st x y) := by
  intro pins s σ H x y v u Q I rx ry h
  obtain ⟨ρ, st, w, z, r, r1, r2, h⟩ := h
  dsimp only at h
  unfold opAdd at h
  split at h
  · cases rel_int r1; cases rel_int r2
    exact op_add pins s σ H _ _ v u Q I rx ry ⟨_, _, rfl, rfl, QV.at h r (of_int _)⟩
  · cases relS_eq r1; cases relS_eq r2
    split at h
    · rename_i hl
      refine op_add_str pins s σ H _ _ v u Q I rx ry ⟨_, _, rfl, rfl, by rw [sS_len, sS_len, sizeLine_eq]; exact hl, ?_⟩
      rw [sS_append]
      exact QV.at h r (of_str _)
    · exact h.elim
  · simp only [RelW] at r1 r2
    obtain ⟨a1, xs, rfl, t1, q1⟩ := r1
    obtain ⟨a2, ys, rfl, t2, q2⟩ := r2
    split at h
    · rename_i hl
      obtain ⟨h1, h2, h3⟩ := hl
      have n1 : xs ≠ [] := fun e => by
        subst e
        have := q1.length
        rw [List.length_eq_zero_iff.mp this] at h1; cases h1
      have n2 : ys ≠ [] := fun e => by
        subst e
        have := q2.length
        rw [List.length_eq_zero_iff.mp this] at h2; cases h2
      refine op_catT pins s σ H _ _ v u Q I rx ry ⟨a1, a2, xs, ys, rfl, rfl, by rw [hK]; exact t1.sq, by rw [hK]; exact t2.sq, n1, by rw [← q1.length, ← q2.length, sizeLine_eq]; exact h3, fun e => absurd e n2, fun _ p hp => ?_⟩
      exact h ρ _ (Ext.fresh hp) (r.fresh hp) _ (RelW.tup_new (q1.append q2) hp (r.out hp))
    · exact h.elim
  · split at h
    · rename_i l1 l2 e1 e2
      obtain ⟨a1, xs, rfl, q1, t1⟩ := lstOf_ok0 r r1 e1
      obtain ⟨a2, ys, rfl, q2, t2⟩ := lstOf_ok0 r r2 e2
      split at h
      · rename_i hl
        refine op_cat2 pins s σ H _ _ v u Q I rx ry ⟨a1, a2, xs, ys, rfl, rfl, by rw [hK]; exact t1, by rw [hK]; exact t2, by rw [← q1.length, ← q2.length, sizeLine_eq]; exact hl, fun p hp => ?_⟩
        exact h ρ _ (Ext.fresh hp) (r.fresh hp) _ (RelW.lst_new (q1.append q2) hp (r.out hp))
      · exact h.elim
    · exact h.elim
theorem sub_ok : OpR X (binaryOp .Sub) (rOp c fun x y st => opSub st x y) := by
  intro pins s σ H x y v u Q I rx ry h
  obtain ⟨ρ, st, w, z, r, r1, r2, h⟩ := h
  dsimp only at h
  unfold opSub at h
  split at h
  · cases rel_int r1; cases rel_int r2
    exact op_sub pins s σ H _ _ v u Q I rx ry ⟨_, _, rfl, rfl, QV.at h r (of_int _)⟩
  · exact h.elim
theorem rep_fold (a : Array Nat) : ∀ (n : Nat) (b : Array Nat), ((List.replicate n a).foldl (· ++ ·) b).toList = b.toList ++ (List.replicate n a.toList).flatten
  | 0, b => by simp
  | n + 1, b => by
    rw [List.replicate_succ, List.foldl_cons, rep_fold a n, List.replicate_succ, List.flatten_cons]
    simp
theorem op_mul_str : OpR X (binaryOp .Mult) (fun x y H Q => ∃ (a : List Nat) (n : Int), x = .str (sS a) ∧ y = .int n ∧ 0 ≤ n ∧ n ≤ 1000 ∧ a.length ≤ 1000 ∧ Q (.str (sS (List.replicate n.toNat a).flatten)) H) := by
  intro pins s σ H x y v u Q I rx ry h
  obtain ⟨a, n, rfl, rfl, h0, h1, h2, q⟩ := h
  obtain ⟨t, rfl⟩ := rx
  obtain ⟨t', rfl⟩ := ry
  have hl : (sS a).length = a.length := sS_len a
  have hle : a.length * n.toNat ≤ 1000 * 1000 := Nat.mul_le_mul h2 (by omega)
  have ef : (⟨(List.replicate n.toNat (sS a).cps).foldl (· ++ ·) #[]⟩ : Str) = sS (List.replicate n.toNat a).flatten := by
    have e := rep_fold (sS a).cps n.toNat #[]
    refine congrArg Str.mk ?_
    rw [← Array.toList_inj, e]
    simp
  refine P.mul_str (by
    have : ¬ n < -(2 ^ 63 : Int) := by omega
    have h3 : ¬ n ≥ 2 ^ 63 := by omega
    rw [decide_eq_false this, decide_eq_false h3]; rfl) (fun h3 _ => ?_) (fun h3 _ => ?_) ?_
  · rw [hl]
    intro z
    have : (1000 : Int) ≤ (2 ^ 63 - 1) / n := Int.le_ediv_of_mul_le (by omega) (by omega)
    omega
  · rw [hl]
    unfold Builtin.Str.tooLong
    rw [sizeLine_eq]
    exact decide_eq_false (by omega)
  · split
    · rename_i h3
      have : n = 0 := by omega
      subst this
      exact ⟨by decide, .str (sS []), H, I.tok _, ⟨_, rfl⟩, q⟩
    · rename_i h3
      split
      · rename_i h4
        simp only [Bool.or_eq_true, beq_iff_eq] at h4
        have e : (List.replicate n.toNat a).flatten = a := by
          rcases h4 with h4 | h4
          · subst h4; simp
          · rw [hl] at h4
            rw [List.length_eq_zero_iff.mp h4]
            simp
        rw [e] at q
        exact ⟨.str (sS a), H, I, ⟨_, rfl⟩, q⟩
      · rw [ef]
        exact ⟨by rw [sS_len]; simp; rw [sizeLine_eq]; have := Nat.mul_comm a.length n.toNat; omega, .str (sS (List.replicate n.toNat a).flatten), H, I.tok _, ⟨_, rfl⟩, q⟩
theorem bits60 {j : Int} (h : j.natAbs < 2 ^ 60) : Builtin.Int.intBits j ≤ 64 := by
  have h2 : (2 : Nat) ^ 60 < 2 ^ 64 := by decide
  have h3 : (2 : Int) ^ 64 = ((2 ^ 64 : Nat) : Int) := by decide
  exact PySem.intBits_le_64 (by omega) (by omega)
theorem op_mulT : OpR X (binaryOp .Mult) (rI (fun _ j => j.natAbs < 2 ^ 60) fun i j => .int (i * j)) := opI fun i j _ _ _ _ _ hc q => mul_int q (PySem.IntMulOk.of_right (bits60 hc))
theorem mul_ok : OpR X (binaryOp .Mult) (rOp c fun x y st => opMul st x y) := by
  intro pins s σ H x y v u Q I rx ry h
  obtain ⟨ρ, st, w, z, r, r1, r2, h⟩ := h
  dsimp only at h
  unfold opMul at h
  split at h
  · cases rel_int r1; cases rel_int r2
    split at h
    · rename_i hl
      rcases hl with hl | hl
      · exact op_mulW pins s σ H _ _ v u Q I rx ry ⟨_, _, rfl, rfl, hl, QV.at h r (of_int _)⟩
      · exact op_mulT pins s σ H _ _ v u Q I rx ry ⟨_, _, rfl, rfl, hl, QV.at h r (of_int _)⟩
    · exact h.elim
  · cases relS_eq r1; cases rel_int r2
    split at h
    · rename_i hl
      exact op_mul_str pins s σ H _ _ v u Q I rx ry ⟨_, _, rfl, rfl, hl.1, hl.2.1, hl.2.2, QV.at h r (of_str _)⟩
    · exact h.elim
  · exact h.elim
theorem pow_ok : OpR X (binaryOp .Pow) (rOp c fun x y st => opPow st x y) := by
  intro pins s σ H x y v u Q I rx ry h
  obtain ⟨ρ, st, w, z, r, r1, r2, h⟩ := h
  dsimp only at h
  unfold opPow at h
  split at h
  · cases rel_int r1; cases rel_int r2
    split at h
    · rename_i hl
      exact op_pow pins s σ H _ _ v u Q I rx ry ⟨_, _, rfl, rfl, hl, QV.at h r (of_int _)⟩
    · exact h.elim
  · exact h.elim
theorem div_ok : OpR X (binaryOp .FloorDiv) (rOp c fun x y st => opDiv st x y) := by
  intro pins s σ H x y v u Q I rx ry h
  obtain ⟨ρ, st, w, z, r, r1, r2, h⟩ := h
  dsimp only at h
  unfold opDiv at h
  split at h
  · rename_i a b
    cases rel_int r1; cases rel_int r2
    split at h
    · rename_i hl
      exact opI (C := fun _ j => j ≠ 0 ∧ j.natAbs.log2 < 9000) (g := fun i j => i.fdiv j) (fun _ _ _ _ _ _ _ hc q => floordiv_int hc.1 q (.inl (PyProof.noPylong_of_log2 hc.2))) pins s σ H _ _ v u Q I rx ry ⟨a, b, rfl, rfl, hl, QV.at h r (of_int _)⟩
    · exact h.elim
  · exact h.elim
theorem mod_ok : OpR X (binaryOp .Mod) (rOp c fun x y st => opMod st x y) := by
  intro pins s σ H x y v u Q I rx ry h
  obtain ⟨ρ, st, w, z, r, r1, r2, h⟩ := h
  dsimp only at h
  unfold opMod at h
  split at h
  · cases rel_int r1; cases rel_int r2
    split at h
    · rename_i hl
      exact op_modN pins s σ H _ _ v u Q I rx ry ⟨_, _, rfl, rfl, hl, QV.at h r (of_int _)⟩
    · exact h.elim
  · exact h.elim
theorem lt_ok : OpR X (compareOp .Lt) (rOp c fun x y st => opLt st x y) := by
  intro pins s σ H x y v u Q I rx ry h
  obtain ⟨ρ, st, w, z, r, r1, r2, h⟩ := h
  dsimp only at h
  unfold opLt at h
  split at h
  · cases rel_int r1; cases rel_int r2
    exact op_lt pins s σ H _ _ v u Q I rx ry ⟨_, _, rfl, rfl, QV.at h r (of_bl _)⟩
  · exact h.elim
theorem le_ok : OpR X (compareOp .LtE) (rOp c fun x y st => opLe st x y) := by
  intro pins s σ H x y v u Q I rx ry h
  obtain ⟨ρ, st, w, z, r, r1, r2, h⟩ := h
  dsimp only at h
  unfold opLe at h
  split at h
  · cases rel_int r1; cases rel_int r2
    exact op_le pins s σ H _ _ v u Q I rx ry ⟨_, _, rfl, rfl, QV.at h r (of_bl _)⟩
  · exact h.elim
theorem gt_ok : OpR X (compareOp .Gt) (rOp c fun x y st => opLt st y x) := by
  intro pins s σ H x y v u Q I rx ry h
  obtain ⟨ρ, st, w, z, r, r1, r2, h⟩ := h
  dsimp only at h
  unfold opLt at h
  split at h
  · cases rel_int r1; cases rel_int r2
    exact op_gt pins s σ H _ _ v u Q I rx ry ⟨_, _, rfl, rfl, QV.at h r (of_bl _)⟩
  · exact h.elim
theorem ints_of : ∀ {l : List W} {ns : List Int}, allAs asInt l = some ns → l = ns.map .int
  | [], ns, h => by cases h; rfl
  | x :: r, ns, h => by
    cases x with
    | int i =>
      simp only [allAs, asInt] at h
      cases e : allAs asInt r with
      | none => rw [e] at h; cases h
      | some ys => rw [e] at h; cases h; rw [ints_of e]; rfl
    | _ => simp [allAs, asInt] at h
theorem relInts {ρ : Rho} {H : Hp} : ∀ {ns : List Int} {xs : List V}, RelL c ρ H (ns.map .int) xs → xs = ns.map .int
  | [], xs, h => by simpa only [List.map_nil, RelL] using h
  | n :: ns, xs, h => by
    simp only [List.map_cons, RelL] at h
    obtain ⟨y, ys, rfl, r, rs⟩ := h
    rw [rel_int r, relInts rs, List.map_cons]
/-- >= of two tuples of as many numbers -/
theorem lex_ge (xs ys : List Int) (n : Nat) (hx : xs.length = n) (hy : ys.length = n) : ∀ (k i : Nat), i + k = n → Ob.lexAt (fun j => decide (xs.getD j 0 = ys.getD j 0)) (fun j => decide (ys.getD j 0 ≤ xs.getD j 0)) true i k = leI (ys.drop i) (xs.drop i)
  | 0, i, h => by
    rw [Ob.lexAt_zero, List.drop_of_length_le (by omega), List.drop_of_length_le (by omega)]
    rfl
  | k + 1, i, h => by
    have h1 : i < xs.length := by omega
    have h2 : i < ys.length := by omega
    rw [Ob.lexAt_succ, lex_ge xs ys n hx hy k (i + 1) (by omega), List.drop_eq_getElem_cons h1, List.drop_eq_getElem_cons h2, leI]
    have e1 : xs.getD i 0 = xs[i] := by simp [List.getD, h1]
    have e2 : ys.getD i 0 = ys[i] := by simp [List.getD, h2]
    simp only [e1, e2, decide_eq_true_eq]
    by_cases q : xs[i] = ys[i]
    · rw [if_pos q, if_pos q.symm]
    · rw [if_neg q, if_neg (Ne.symm q)]
def rGeT (K : PySem.W.Frag) : R2 := fun x y H Q => ∃ (a b : Addr) (ns ms : List Int), x = .ref a ∧ y = .ref b ∧ SqT K H a (ns.map V.int) ∧ SqT K H b (ms.map V.int) ∧ ns.length = ms.length ∧ Q (.bl (leI ms ns)) H
theorem op_geT (hu : X.A.units < cLine) : OpR X (compareOp .GtE) (rGeT X.K) := by
  intro pins s σ H x y v u Q I rx ry h
  obtain ⟨a, b, ns, ms, rfl, rfl, ha, hb, hl, q⟩ := h
  cases rx
  cases ry
  obtain ⟨its, r1, p1, _⟩ := I.tuple ha
  obtain ⟨its2, r2, p2, _⟩ := I.tuple hb
  have i1 : IntsAre its ns := Vals.ints r1
  have i2 : IntsAre its2 ms := Vals.ints r2
  have e1 : its.toArray.size = ns.length := by rw [List.size_toArray]; exact i1.length
  have e2 : its2.toArray.size = ms.length := by rw [List.size_toArray]; exact i2.length
  have at1 : ∀ j (h1 : j < its.toArray.size), ∃ t, its.toArray[j] = .int (ns.getD j 0) t := fun j h1 => PyProof.Rows.IntsAre.int_at i1 _ _ (by simp at h1; simp [h1])
  have at2 : ∀ j (h1 : j < its2.toArray.size), ∃ t, its2.toArray[j] = .int (ms.getD j 0) t := fun j h1 => PyProof.Rows.IntsAre.int_at i2 _ _ (by simp at h1; simp [h1])
  have R := Ob.RcOp.tuples_ge (A := X.A) (s := s) (e := fun j => decide (ns.getD j 0 = ms.getD j 0)) (r := fun j => decide (ms.getD j 0 ≤ ns.getD j 0)) p1 p2 hu (fun j h1 h2 => by
    obtain ⟨t, et⟩ := at1 j h1
    obtain ⟨t', et'⟩ := at2 j h2
    rw [et, et']
    have z : (ns.getD j 0 == ms.getD j 0) = decide (ns.getD j 0 = ms.getD j 0) := by
      by_cases q : ns.getD j 0 = ms.getD j 0
      · rw [decide_eq_true q]; exact beq_iff_eq.mpr q
      · rw [decide_eq_false q]; exact beq_eq_false_iff_ne.mpr q
    rw [← z]
    exact SeqAt.EqAt.int_int _ _ _ _) (fun j h1 h2 _ => by
    obtain ⟨t, et⟩ := at1 j h1
    obtain ⟨t', et'⟩ := at2 j h2
    rw [et, et']
    exact Ob.RcOp.ge_int _ _ _ _)
  rw [e1, e2, ← hl, Nat.min_self, show decide (ns.length ≥ ns.length) = true from decide_eq_true (Nat.le_refl _), lex_ge ns ms ns.length rfl hl.symm ns.length 0 (by omega)] at R
  have z : wpAny (model X.prog X.w) X.A (compareOp .GtE (.ref a) (.ref b)) (EP X pins σ Q) X.xe s := R X.prog X.w X.xe (EP X pins σ Q) ⟨.bl _, H, I, rfl, q⟩
  exact z
theorem ge_ok (hu : X.A.units + 64 < cLine) (hK : X.K = c.K) : OpR X (compareOp .GtE) (rOp c fun x y st => opGe st x y) := by
  intro pins s σ H x y v u Q I rx ry h
  obtain ⟨ρ, st, w, z, r, r1, r2, h⟩ := h
  dsimp only at h
  unfold opGe at h
  split at h
  · cases rel_int r1; cases rel_int r2
    exact op_ge pins s σ H _ _ v u Q I rx ry ⟨_, _, rfl, rfl, QV.at h r (of_bl _)⟩
  · split at h
    · rename_i xs ys e1 e2
      split at h
      · rename_i hl
        simp only [RelW] at r1 r2
        obtain ⟨a1, l1, rfl, t1, q1⟩ := r1
        obtain ⟨a2, l2, rfl, t2, q2⟩ := r2
        rw [ints_of e1] at q1
        rw [ints_of e2] at q2
        cases relInts q1
        cases relInts q2
        exact op_geT (by omega) pins s σ H _ _ v u Q I rx ry ⟨a1, a2, xs, ys, rfl, rfl, by rw [hK]; exact t1.sq, by rw [hK]; exact t2.sq, hl, QV.at h r (of_bl _)⟩
      · exact h.elim
    · exact h.elim
  · exact h.elim

/-! ### == -/
mutual
theorem toD_ok {ρ : Rho} {H : Hp} : ∀ (d : Nat) (w : W) (v : V), dat d w = true → RelW c ρ H w v → Dp c.K H v (toD w)
  | _, .non, _, _, r => by cases rel_non r; exact Dp.non
  | _, .bl b, _, _, r => by cases rel_bl r; exact Dp.bl b
  | _, .int i, _, _, r => by cases rel_int r; exact Dp.int i
  | _, .str s, _, _, r => by cases relS_eq r; exact Dp.str _
  | 0, .tup l, _, h, _ => by simp [dat] at h
  | 0, .lst l, _, h, _ => by simp [dat] at h
  | d + 1, .tup l, _, h, r => by
    simp only [RelW] at r
    obtain ⟨a, xs, rfl, t, rs⟩ := r
    simp only [toD]
    exact Dp.tup t.sq (toDs_ok d l xs (by simpa only [dat] using h) rs)
  | d + 1, .lst l, _, h, r => by
    simp only [RelW] at r
    obtain ⟨a, xs, rfl, t, rs⟩ := r
    simp only [toD]
    exact Dp.lst t.sq (toDs_ok d l xs (by simpa only [dat] using h) rs)
  | _, .dct _ _, _, h, _ => by simp [dat] at h
  | _, .ref _, _, h, _ => by simp [dat] at h
  | _, .exn _ _, _, h, _ => by simp [dat] at h
theorem toDs_ok {ρ : Rho} {H : Hp} : ∀ (d : Nat) (l : List W) (vs : List V), datL d l = true → RelL c ρ H l vs → DpAll c.K H vs (toDs l)
  | _, [], _, _, r => by simp only [RelL] at r; subst r; exact DpAll.nil
  | d, x :: xs, _, h, r => by
    simp only [RelL] at r
    obtain ⟨y, ys, rfl, r1, r2⟩ := r
    simp only [datL, Bool.and_eq_true] at h
    simp only [toDs]
    exact DpAll.cons (toD_ok d x y h.1 r1) (toDs_ok d xs ys h.2 r2)
end
mutual
theorem toD_lay : ∀ (d : Nat) (w : W), dat d w = true → (toD w).canLay0 = true ∧ (toD w).depth ≤ d
  | _, .non, _ => by simp [toD, PyData.canLay0, PyData.depth]
  | _, .bl b, _ => by simp [toD, PyData.canLay0, PyData.depth]
  | _, .int i, _ => by simp [toD, PyData.canLay0, PyData.depth]
  | _, .str s, h => by
    simp only [dat] at h
    refine ⟨?_, by simp [toD, PyData.depth]⟩
    simp only [toD, PyData.canLay0, PyData.strOk]
    simpa using h
  | 0, .tup l, h => by simp [dat] at h
  | 0, .lst l, h => by simp [dat] at h
  | d + 1, .tup l, h => by
    have z := toDs_lay d l (by simpa only [dat] using h)
    simp only [toD, PyData.canLay0, PyData.depth]
    exact ⟨z.1, by omega⟩
  | d + 1, .lst l, h => by
    have z := toDs_lay d l (by simpa only [dat] using h)
    simp only [toD, PyData.canLay0, PyData.depth]
    exact ⟨z.1, by omega⟩
  | _, .dct _ _, h => by simp [dat] at h
  | _, .ref _, h => by simp [dat] at h
  | _, .exn _ _, h => by simp [dat] at h
theorem toDs_lay : ∀ (d : Nat) (l : List W), datL d l = true → PyData.canLayAll0 (toDs l) = true ∧ PyData.depthAll (toDs l) ≤ d
  | _, [], _ => by simp [toDs, PyData.canLayAll0, PyData.depthAll]
  | d, x :: xs, h => by
    simp only [datL, Bool.and_eq_true] at h
    have z := toD_lay d x h.1
    have z' := toDs_lay d xs h.2
    simp only [toDs, PyData.canLayAll0, PyData.depthAll, Bool.and_eq_true]
    exact ⟨⟨z.1, z'.1⟩, by omega⟩
end
theorem toD_shaped {w : W} (h : dat 60 w = true) : SeqAt.shaped (toD w) = true := by
  have z := toD_lay 60 w h
  unfold SeqAt.shaped
  rw [z.1, Bool.true_and]
  exact decide_eq_true (Nat.le_trans z.2 (by decide))
theorem sS_beq (x y : List Nat) : (sS x == sS y) = (x == y) := by
  by_cases h : x = y
  · subst h; simp
  · have h2 : ¬ sS x = sS y := fun e => h (sS_inj e)
    rw [beq_eq_false_iff_ne.mpr h2, beq_eq_false_iff_ne.mpr h]
mutual
theorem eqv_toD : ∀ (d e : Nat) (x y : W), dat d x = true → dat e y = true → PyData.eqv (toD x) (toD y) = eqv x y
  | _, _, .non, y, _, h => by cases y <;> simp [dat] at h <;> simp [toD, PyData.eqv, eqv]
  | _, _, .bl a, y, _, h => by cases y <;> simp [dat] at h <;> simp [toD, PyData.eqv, eqv]
  | _, _, .int a, y, _, h => by cases y <;> simp [dat] at h <;> simp [toD, PyData.eqv, eqv]
  | _, _, .str a, y, _, h => by cases y <;> simp [dat] at h <;> simp [toD, PyData.eqv, eqv, sS_beq]
  | 0, _, .tup l, _, h, _ => by simp [dat] at h
  | 0, _, .lst l, _, h, _ => by simp [dat] at h
  | d + 1, e, .tup l, y, h, h' => by
    cases y with
    | tup m =>
      cases e with
      | zero => simp [dat] at h'
      | succ e =>
        simp only [toD, PyData.eqv, eqv]
        exact eqvL_toD d e l m (by simpa only [dat] using h) (by simpa only [dat] using h')
    | _ => simp [dat] at h' <;> simp [toD, PyData.eqv, eqv]
  | d + 1, e, .lst l, y, h, h' => by
    cases y with
    | lst m =>
      cases e with
      | zero => simp [dat] at h'
      | succ e =>
        simp only [toD, PyData.eqv, eqv]
        exact eqvL_toD d e l m (by simpa only [dat] using h) (by simpa only [dat] using h')
    | _ => simp [dat] at h' <;> simp [toD, PyData.eqv, eqv]
  | _, _, .dct _ _, _, h, _ => by simp [dat] at h
  | _, _, .ref _, _, h, _ => by simp [dat] at h
  | _, _, .exn _ _, _, h, _ => by simp [dat] at h
theorem eqvL_toD : ∀ (d e : Nat) (x y : List W), datL d x = true → datL e y = true → PyData.eqvAll (toDs x) (toDs y) = eqvL x y
  | _, _, [], [], _, _ => by simp [toDs, PyData.eqvAll, eqvL]
  | _, _, [], _ :: _, _, _ => by simp [toDs, PyData.eqvAll, eqvL]
  | _, _, _ :: _, [], _, _ => by simp [toDs, PyData.eqvAll, eqvL]
  | d, e, x :: xs, y :: ys, h, h' => by
    simp only [datL, Bool.and_eq_true] at h h'
    simp only [toDs, PyData.eqvAll, eqvL]
    rw [eqv_toD d e x y h.1 h'.1, eqvL_toD d e xs ys h.2 h'.2]
end
theorem seen_ok {ρ : Rho} {H : Hp} {st : St} {w : W} {v : V} (r : Rel c ρ H st) (h : RelW c ρ H w v) (hd : dat 60 (seen st w) = true) : Dp c.K H v (toD (seen st w)) := by
  cases w with
  | ref n =>
    have e0 : seen st (.ref n) = (match st[n]? with
      | some (.lst l) => .lst l
      | _ => .ref n) := rfl
    rw [e0] at hd ⊢
    split at hd
    · rename_i l e
      obtain ⟨a, e1, xs, e2, rs⟩ := r.at_n e
      simp only [RelW] at h
      obtain ⟨a', e3, rfl⟩ := h
      rw [e1] at e3; cases e3
      simp only [toD]
      exact Dp.lst (SqL.of e2) (toDs_ok 59 l xs (by simpa only [dat] using hd) rs)
    · simp [dat] at hd
  | _ => exact toD_ok 60 _ _ hd h
theorem eqR_ok {ρ : Rho} {H : Hp} {st : St} {w z : W} {x y : V} {b : Bool} (r : Rel c ρ H st) (r1 : RelW c ρ H w x) (r2 : RelW c ρ H z y) (h : eqR st w z = some b) :
    (scal x y = true ∧ decide (x = y) = b) ∨ ∃ d e, Dp c.K H x d ∧ Dp c.K H y e ∧ SeqAt.shaped d = true ∧ SeqAt.shaped e = true ∧ PyData.eqv d e = b := by
  unfold eqR at h
  split at h
  · cases rel_int r1; cases rel_int r2
    cases h
    exact .inl ⟨rfl, dec_int⟩
  · cases relS_eq r1; cases relS_eq r2
    cases h
    exact .inl ⟨rfl, by rw [dec_str, sS_beq]⟩
  · cases rel_non r1; cases rel_non r2
    cases h
    exact .inl ⟨rfl, by simp⟩
  · split at h
    · rename_i hd
      cases h
      exact .inr ⟨_, _, seen_ok r r1 hd.1, seen_ok r r2 hd.2, toD_shaped hd.1, toD_shaped hd.2, eqv_toD 60 60 _ _ hd.1 hd.2⟩
    · cases h
theorem okB_at {ρ : Rho} {H : Hp} {st : St} {o : Option Bool} {Q : VK} (h : Post c (fun _ _ _ => False) ρ H (okB st o) (QV c Q)) (r : Rel c ρ H st) : ∃ b, o = some b ∧ Q (.bl b) H := by
  cases o with
  | none => exact h.elim
  | some b => exact ⟨b, rfl, QV.at h r (of_bl b)⟩
theorem eq_ok (hu : X.A.units + 64 < cLine) (hK : X.K = c.K) : OpR X (compareOp .Eq) (rOp c fun x y st => okB st (eqR st x y)) := by
  intro pins s σ H x y v u Q I rx ry h
  obtain ⟨ρ, st, w, z, r, r1, r2, h⟩ := h
  obtain ⟨b, e, q⟩ := okB_at h r
  rcases eqR_ok r r1 r2 e with ⟨h1, h2⟩ | ⟨d, e, h1, h2, h3, h4, h5⟩
  · exact op_eq pins s σ H x y v u Q I rx ry ⟨h1, by rw [h2]; exact q⟩
  · exact op_eqD hu pins s σ H x y v u Q I rx ry ⟨d, e, by rw [hK]; exact h1, by rw [hK]; exact h2, h3, h4, by rw [h5]; exact q⟩
theorem ne_ok (hu : X.A.units + 64 < cLine) (hK : X.K = c.K) : OpR X (compareOp .NotEq) (rOp c fun x y st => okB st (notB (eqR st x y))) := by
  intro pins s σ H x y v u Q I rx ry h
  obtain ⟨ρ, st, w, z, r, r1, r2, h⟩ := h
  obtain ⟨b, e, q⟩ := okB_at h r
  cases e2 : eqR st w z with
  | none => rw [e2] at e; cases e
  | some b' =>
    rw [e2] at e
    have e3 : (!b') = b := Option.some.inj e
    rcases eqR_ok r r1 r2 e2 with ⟨h1, h2⟩ | ⟨d, e, h1, h2, h3, h4, h5⟩
    · exact op_ne pins s σ H x y v u Q I rx ry ⟨h1, by rw [h2, e3]; exact q⟩
    · exact op_neD hu pins s σ H x y v u Q I rx ry ⟨d, e, by rw [hK]; exact h1, by rw [hK]; exact h2, h3, h4, by rw [h5, e3]; exact q⟩

/-! ### is -/
theorem isR_ok {ρ : Rho} {H : Hp} {w z : W} {x y : V} {b : Bool} (r1 : RelW c ρ H w x) (r2 : RelW c ρ H z y) (h : isR w z = some b) :
    (y = .non ∧ decide (x = .non) = b) ∨ (∃ j k, x = .bl j ∧ y = .bl k ∧ decide (j = k) = b) := by
  unfold isR at h
  split at h <;> cases h
  case h_2 =>
    cases rel_bl r2
    cases rel_bl r1
    exact .inr ⟨_, _, rfl, rfl, Bool.beq_eq_decide_eq _ _ |>.symm⟩
  all_goals
    cases rel_non r2
    refine .inl ⟨rfl, ?_⟩
    first
      | (cases rel_non r1; rfl)
      | (cases rel_bl r1; rfl)
      | (cases rel_int r1; rfl)
      | (cases relS_eq r1; rfl)
      | (simp only [RelW] at r1; obtain ⟨_, _, rfl, _⟩ := r1; rfl)
      | (simp only [RelW] at r1; obtain ⟨_, _, _, rfl, _⟩ := r1; rfl)
      | (simp only [RelW] at r1; obtain ⟨_, _, rfl⟩ := r1; rfl)
      | (simp only [RelW] at r1)
theorem is_ok : OpR X (compareOp .Is) (rOp c fun x y st => okB st (isR x y)) := by
  intro pins s σ H x y v u Q I rx ry h
  obtain ⟨ρ, st, w, z, r, r1, r2, h⟩ := h
  obtain ⟨b, e, q⟩ := okB_at h r
  rcases isR_ok r1 r2 e with ⟨h1, h2⟩ | ⟨j, k, h1, h2, h3⟩
  · exact op_isN pins s σ H x y v u Q I rx ry ⟨h1, by rw [h2]; exact q⟩
  · exact op_isBl pins s σ H x y v u Q I rx ry ⟨j, k, h1, h2, by rw [h3]; exact q⟩
theorem isn_ok : OpR X (compareOp .IsNot) (rOp c fun x y st => okB st (notB (isR x y))) := by
  intro pins s σ H x y v u Q I rx ry h
  obtain ⟨ρ, st, w, z, r, r1, r2, h⟩ := h
  obtain ⟨b, e, q⟩ := okB_at h r
  cases e2 : isR w z with
  | none => rw [e2] at e; cases e
  | some b' =>
    rw [e2] at e
    have e3 : (!b') = b := Option.some.inj e
    rcases isR_ok r1 r2 e2 with ⟨h1, h2⟩ | ⟨j, k, h1, h2, h3⟩
    · exact op_notN pins s σ H x y v u Q I rx ry ⟨h1, by rw [h2, e3]; exact q⟩
    · exact op_notBl pins s σ H x y v u Q I rx ry ⟨j, k, h1, h2, by rw [h3, e3]; exact q⟩

/-! ### in -/
theorem listOf_ok {ρ : Rho} {H : Hp} {st : St} {w : W} {x : V} {l : List W} (r : Rel c ρ H st) (r1 : RelW c ρ H w x) (h : listOf st w = some l) : ∃ a xs, x = .ref a ∧ RelL c ρ H l xs ∧ (SqL c.K H a xs ∨ SqT c.K H a xs) := by
  unfold listOf at h
  split at h
  · cases h
    simp only [RelW] at r1
    obtain ⟨a, xs, rfl, t, rs⟩ := r1
    exact ⟨a, xs, rfl, rs, .inl t.sq⟩
  · cases h
    simp only [RelW] at r1
    obtain ⟨a, xs, rfl, t, rs⟩ := r1
    exact ⟨a, xs, rfl, rs, .inr t.sq⟩
  · split at h
    · rename_i n l' e
      cases h
      simp only [RelW] at r1
      obtain ⟨a, e1, rfl⟩ := r1
      obtain ⟨a', e2, xs, e3, rs⟩ := r.at_n e
      rw [e1] at e2; cases e2
      exact ⟨a, xs, rfl, rs, .inl (SqL.of e3)⟩
    · cases h
  · cases h
/-! dicts -/
theorem isKey_ky {w : W} (h : isKey w = true) : ∃ k, kyW w = some k := by
  cases w <;> first | exact ⟨_, rfl⟩ | cases h
theorem kyW_rel {ρ : Rho} {H : Hp} {w : W} {v : V} {k : L2.Key} (h : kyW w = some k) (r : RelW c ρ H w v) : v = kV k := by
  cases w with
  | int i => cases h; exact rel_int r
  | str s => cases h; exact relS_eq r
  | _ => cases h
theorem kyW_eqv {a b : W} {x y : L2.Key} (h : kyW a = some x) (h2 : kyW b = some y) : eqv a b = decide (x = y) := by
  cases a with
  | int i =>
    cases h
    cases b with
    | int j =>
      cases h2
      simp only [eqv]
      rw [Bool.eq_iff_iff]; simp
    | str t => cases h2; simp [eqv]
    | _ => cases h2
  | str s =>
    cases h
    cases b with
    | int j => cases h2; simp [eqv]
    | str t =>
      cases h2
      simp only [eqv]
      rw [Bool.eq_iff_iff]
      simp only [beq_iff_eq, decide_eq_true_eq]
      exact ⟨fun e => by rw [e], fun e => sS_inj (Sum.inr.inj e)⟩
    | _ => cases h2
  | _ => cases h
theorem kyL_eqv : ∀ {as bs : List W} {x y : List L2.Key}, kyL as = some x → kyL bs = some y → eqvL as bs = decide (x = y)
  | [], [], _, _, h, h2 => by cases h; cases h2; simp [eqvL]
  | [], b :: bs, _, _, h, h2 => by
    cases h
    simp only [kyL] at h2
    split at h2
    · cases h2; simp [eqvL]
    · cases h2
  | a :: as, [], _, _, h, h2 => by
    cases h2
    simp only [kyL] at h
    split at h
    · cases h; simp [eqvL]
    · cases h
  | a :: as, b :: bs, _, _, h, h2 => by
    simp only [kyL] at h h2
    split at h
    · rename_i k ks e1 e2
      cases h
      split at h2
      · rename_i k' ks' e3 e4
        cases h2
        simp only [eqvL]
        rw [kyW_eqv e1 e3, kyL_eqv e2 e4, Bool.eq_iff_iff]
        simp
      · cases h2
    · cases h
theorem kyT_eqv {a b : W} {x y : List L2.Key} (h : kyT a = some x) (h2 : kyT b = some y) : eqv a b = decide (x = y) := by
  unfold kyT at h h2
  split at h
  · split at h2
    · simp only [eqv]; exact kyL_eqv h h2
    · cases h2
  · cases h
theorem kyL_rel {ρ : Rho} {H : Hp} : ∀ {l : List W} {k : List L2.Key} {xs : List V}, kyL l = some k → RelL c ρ H l xs → xs = k.map kV
  | [], _, _, h, r => by cases h; simp only [RelL] at r; subst r; rfl
  | a :: as, _, _, h, r => by
    simp only [kyL] at h
    split at h
    · rename_i k ks e1 e2
      cases h
      simp only [RelL] at r
      obtain ⟨y, ys, rfl, r1, r2⟩ := r
      rw [kyW_rel e1 r1, kyL_rel e2 r2, List.map_cons]
    · cases h
theorem kyW_back {ρ : Rho} {H : Hp} {w : W} {k : L2.Key} (h : kyW w = some k) : RelW c ρ H w (kV k) := by
  cases w with
  | int i => cases h; exact of_int i
  | str s => cases h; exact of_str s
  | _ => cases h
theorem kyL_back {ρ : Rho} {H : Hp} : ∀ {l : List W} {k : List L2.Key}, kyL l = some k → RelL c ρ H l (k.map kV)
  | [], _, h => by cases h; exact RelL.nil
  | a :: as, _, h => by
    simp only [kyL] at h
    split at h
    · rename_i k ks e1 e2
      cases h
      exact RelL.cons (kyW_back e1) (kyL_back e2)
    · cases h
theorem all_ky : ∀ {l : List W}, (l.all isKey) = true → ∃ k, kyL l = some k
  | [], _ => ⟨[], rfl⟩
  | a :: as, h => by
    simp only [List.all_cons, Bool.and_eq_true] at h
    obtain ⟨k, e1⟩ := isKey_ky h.1
    obtain ⟨ks, e2⟩ := all_ky h.2
    exact ⟨k :: ks, by simp only [kyL, e1, e2]⟩
theorem isTK_ky {w : W} (h : isTK w = true) : ∃ k, kyT w = some k := by
  unfold isTK at h
  split at h
  · exact all_ky h
  · cases h
theorem kyT_rel {ρ : Rho} {H : Hp} {w : W} {v : V} {k : List L2.Key} (h : kyT w = some k) (r : RelW c ρ H w v) : ∃ b, v = .ref b ∧ TupAt c ρ H b (k.map kV) := by
  unfold kyT at h
  split at h
  · simp only [RelW] at r
    obtain ⟨a, xs, rfl, t, rs⟩ := r
    rw [kyL_rel h rs] at t
    exact ⟨a, rfl, t⟩
  · cases h
/-- what a key of ours stands for as a tuple that stands -/
theorem kyT_back {ρ : Rho} {H : Hp} {w : W} {k : List L2.Key} {b : Addr} (h : kyT w = some k) (e : TupAt c ρ H b (k.map kV)) : RelW c ρ H w (.ref b) := by
  unfold kyT at h
  split at h
  · simp only [RelW]
    exact ⟨b, _, rfl, e, kyL_back h⟩
  · cases h
/-! dicts whose keys are tuples -/
structure DtIn (c : Cfg) (H : Hp) (a : Addr) (xs : List (List L2.Key × Addr × Value)) : Prop where
  e : H a = some (dtq c a xs)
  hs : (a == sysModules) = false
  hz : xs.length ≤ line
  nd : (xs.map (·.1)).Nodup
  ks : ∀ q ∈ xs, SqT c.K H q.2.1 (q.1.map kV)
theorem relT_len {ρ : Rho} {H : Hp} {l : List (W × W)} {xs : List (List L2.Key × Addr × Value)} (r : RelT c ρ H l xs) : l.length = xs.length := Paired.length r
theorem relT_mem {ρ : Rho} {H : Hp} : ∀ {l : List (W × W)} {xs : List (List L2.Key × Addr × Value)}, RelT c ρ H l xs → ∀ q ∈ xs, TupAt c ρ H q.2.1 (q.1.map kV)
  | [], _, r, q, hq => by cases r; cases hq
  | p :: l, _, r, q, hq => by
    cases r with
    | cons r1 r2 =>
      rcases List.mem_cons.mp hq with e | hq
      · subst e; exact r1.2.1
      · exact relT_mem r2 q hq
theorem dt_in {ρ : Rho} {H : Hp} {a : Addr} {l : List (W × W)} (q : ObjAt c ρ H a (.dict true l)) : ∃ xs, DtIn c H a xs ∧ RelT c ρ H l xs := by
  obtain ⟨xs, e, hl, hs, hn, r⟩ := q
  exact ⟨xs, ⟨e, hs, by rw [← relT_len r]; exact hl, hn, fun q hq => (relT_mem r q hq).sq⟩, r⟩
section
variable {X : Cx} [Pwx X c] {pins : List (Addr × Obj)} {σ : L2.St} {H : Hp} {s : Shared} {a b : Addr} {xs : List (List L2.Key × Addr × Value)} {k : List L2.Key}
theorem key_at (hK : X.K = c.K) (I : Inv X pins σ H s) (t : SqT c.K H b (k.map kV)) : (tupleKind (mixKind X.prog X.w)).is s.heap k b := by
  obtain ⟨its, rv, ⟨o, h1, h2, n, h3⟩, hz⟩ := I.tuple (show SqT X.K H b (k.map kV) by rw [hK]; exact t)
  exact ⟨o, its.toArray, n, h1, h2, h3, by simpa using items_are rv⟩
theorem DtIn.raw (d : DtIn c H a xs) (I : Inv X pins σ H s) : ∃ o es, s.heap.get? a = some o ∧ o.ExactDict ∧ o.data = .dict es xs.length ∧ es.toList = xs.map (entryOfKey (tupleKind (mixKind X.prog X.w))) := by
  have h := (show ObjOk X.prog X.w H s.heap a (dtq c a xs) from I.hok a _ d.e).1
  rw [← Pwx.p (X := X) (c := c), ← Pwx.w (X := X) (c := c)] at h
  exact h
theorem DtIn.dict (d : DtIn c H a xs) (hK : X.K = c.K) (I : Inv X pins σ H s) : s.heap.DictOfH (tupleKind (mixKind X.prog X.w)) a xs := by
  obtain ⟨o, es, h1, h2, h3, h4⟩ := d.raw I
  exact ⟨o, es, _, h1, h2, h3, h4, fun x hx => key_at hK I (d.ks x hx), d.nd⟩
end
theorem atK_pos {xs : List (List L2.Key × Addr × Value)} {q : List L2.Key × Addr × Value} {k : List L2.Key} (h : q.1 = k) : atKey (q :: xs) k = some q.2 := by simp [atKey, List.find?_cons, h]
theorem atK_neg {xs : List (List L2.Key × Addr × Value)} {q : List L2.Key × Addr × Value} {k : List L2.Key} (h : ¬ q.1 = k) : atKey (q :: xs) k = atKey xs k := by simp [atKey, List.find?_cons, h]
def LookT (c : Cfg) (ρ : Rho) (H : Hp) : Option W → Option (Addr × Value) → Prop
  | some w, some p => ∃ v, RelW c ρ H w v ∧ RelV v p.2
  | none, none => True
  | _, _ => False
theorem relT_look {ρ : Rho} {H : Hp} {w : W} {k : List L2.Key} (h : kyT w = some k) : ∀ {l : List (W × W)} {xs : List (List L2.Key × Addr × Value)}, RelT c ρ H l xs → LookT c ρ H (lookD l w) (atKey xs k)
  | [], _, r => by cases r; trivial
  | p :: l, _, r => by
    cases r with
    | @cons _ q _ qs r1 r2 =>
      have ih := relT_look h r2
      have e := kyT_eqv r1.1 h
      by_cases hq : q.1 = k
      · rw [decide_eq_true hq] at e
        have e1 : lookD (p :: l) w = some p.2 := by unfold lookD; rw [List.find?_cons, e]; rfl
        rw [e1, atK_pos hq]
        exact r1.2.2
      · rw [decide_eq_false hq] at e
        have e1 : lookD (p :: l) w = lookD l w := by unfold lookD; rw [List.find?_cons, e]
        rw [e1, atK_neg hq]
        exact ih
theorem relT_map {ρ : Rho} {H : Hp} {w wv : W} {k : List L2.Key} {v : V} {u : Value} (h : kyT w = some k) (rw_ : RelW c ρ H wv v) (ru : RelV v u) : ∀ {l : List (W × W)} {xs : List (List L2.Key × Addr × Value)}, RelT c ρ H l xs → RelT c ρ H (l.map fun p => if eqv p.1 w = true then (p.1, wv) else p) (xs.map (putAt k u))
  | [], _, r => by cases r; exact .nil
  | p :: l, _, r => by
    cases r with
    | @cons _ q _ qs r1 r2 =>
      have e := kyT_eqv r1.1 h
      rw [List.map_cons, List.map_cons]
      refine .cons ?_ (relT_map h rw_ ru r2)
      by_cases hq : q.1 = k
      · rw [decide_eq_true hq] at e
        rw [if_pos e]
        unfold putAt
        rw [if_pos hq]
        exact ⟨r1.1, r1.2.1, v, rw_, ru⟩
      · rw [decide_eq_false hq] at e
        rw [if_neg (by rw [e]; decide)]
        unfold putAt
        rw [if_neg hq]
        exact r1
theorem any_find {α : Type} (f : α → Bool) (l : List α) : l.any f = (l.find? f).isSome := by
  induction l with
  | nil => rfl
  | cons p l ih =>
    rw [List.any_cons, List.find?_cons]
    cases hq : f p
    · simpa using ih
    · rfl
theorem relT_put {ρ : Rho} {H : Hp} {w wv : W} {k : List L2.Key} {b : Addr} {v : V} {u : Value} (h : kyT w = some k) (t : TupAt c ρ H b (k.map kV)) (rw_ : RelW c ρ H wv v) (ru : RelV v u) {l : List (W × W)} {xs : List (List L2.Key × Addr × Value)} (r : RelT c ρ H l xs) :
    RelT c ρ H (putD l w wv) (storedH xs k b u) := by
  have lk := relT_look h r
  have ea : (l.any fun p => eqv p.1 w) = (lookD l w).isSome := by
    unfold lookD
    rw [Option.isSome_map]
    exact (any_find _ l)
  unfold putD storedH
  rw [ea]
  cases e1 : lookD l w with
  | none =>
    cases e2 : atKey xs k with
    | none =>
      rw [if_neg (by decide), if_neg (by decide)]
      exact Paired.snoc r ⟨h, t, v, rw_, ru⟩
    | some p => rw [e1, e2] at lk; exact lk.elim
  | some w' =>
    cases e2 : atKey xs k with
    | none => rw [e1, e2] at lk; exact lk.elim
    | some p =>
      exact relT_map h rw_ ru r
def LookD (c : Cfg) (ρ : Rho) (H : Hp) : Option W → Option V → Prop
  | some w, some v => RelW c ρ H w v
  | none, none => True
  | _, _ => False
/-- keys of ours, and what they stand for, are alike together -/
def KyOk {κ : Type} [DecidableEq κ] (ky : W → Option κ) : Prop := ∀ {a b : W} {x y : κ}, ky a = some x → ky b = some y → eqv a b = decide (x = y)
theorem kyW_ok : KyOk kyW := fun h h2 => kyW_eqv h h2
section
variable {κ : Type} [DecidableEq κ] {ky : W → Option κ} {ρ : Rho} {H : Hp}
theorem lookG_ok (E : KyOk ky) {k : W} {y : κ} (h : ky k = some y) : ∀ {l : List (W × W)} {kvs : List (κ × V)}, RelG c ρ H ky l kvs → LookD c ρ H (lookD l k) (valV kvs y)
  | [], _, r => by cases r; trivial
  | p :: l, _, r => by
    cases r with
    | @cons _ q _ qs r1 r2 =>
      have ih := lookG_ok E h r2
      have e := E r1.1 h
      by_cases hq : q.1 = y
      · rw [decide_eq_true hq] at e
        have e1 : lookD (p :: l) k = some p.2 := by unfold lookD; rw [List.find?_cons, e]; rfl
        rw [e1, valV_pos hq]
        exact r1.2
      · rw [decide_eq_false hq] at e
        have e1 : lookD (p :: l) k = lookD l k := by unfold lookD; rw [List.find?_cons, e]
        rw [e1, valV_neg hq]
        exact ih
theorem relG_any (E : KyOk ky) {k : W} {y : κ} (h : ky k = some y) : ∀ {l : List (W × W)} {kvs : List (κ × V)}, RelG c ρ H ky l kvs → (l.any fun p => eqv p.1 k) = kvs.any fun kv => decide (kv.1 = y)
  | [], _, r => by cases r; rfl
  | p :: l, _, r => by
    cases r with
    | cons r1 r2 =>
      rw [List.any_cons, List.any_cons, relG_any E h r2, E r1.1 h]
theorem relG_map (E : KyOk ky) {k w : W} {y : κ} {v : V} (h : ky k = some y) (rw : RelW c ρ H w v) : ∀ {l : List (W × W)} {kvs : List (κ × V)}, RelG c ρ H ky l kvs → RelG c ρ H ky (l.map fun p => if eqv p.1 k = true then (p.1, w) else p) (kvs.map fun kv => if kv.1 = y then (kv.1, v) else kv)
  | [], _, r => by cases r; exact .nil
  | p :: l, _, r => by
    cases r with
    | @cons _ q _ qs r1 r2 =>
      have e := E r1.1 h
      rw [List.map_cons, List.map_cons]
      refine .cons ?_ (relG_map E h rw r2)
      by_cases hq : q.1 = y
      · rw [decide_eq_true hq] at e
        rw [if_pos e, if_pos hq]
        exact ⟨r1.1, rw⟩
      · rw [decide_eq_false hq] at e
        rw [if_neg (by rw [e]; decide), if_neg hq]
        exact r1
theorem relG_app {p : W × W} {q : κ × V} (z : ky p.1 = some q.1 ∧ RelW c ρ H p.2 q.2) : ∀ {l : List (W × W)} {kvs : List (κ × V)}, RelG c ρ H ky l kvs → RelG c ρ H ky (l ++ [p]) (kvs ++ [q])
  | [], _, r => by cases r; exact .cons z .nil
  | _ :: _, _, r => by
    cases r with
    | cons r1 r2 => exact .cons r1 (relG_app z r2)
theorem putG_ok (E : KyOk ky) {k w : W} {y : κ} {v : V} (h : ky k = some y) (rw : RelW c ρ H w v) {l : List (W × W)} {kvs : List (κ × V)} (r : RelG c ρ H ky l kvs) : RelG c ρ H ky (putD l k w) (putK kvs y v) := by
  unfold putD putK
  rw [relG_any E h r]
  split
  · exact relG_map E h rw r
  · exact relG_app ⟨h, rw⟩ r
end
theorem putD_ok {ρ : Rho} {H : Hp} {k w : W} {y : L2.Key} {v : V} (h : kyW k = some y) (rw : RelW c ρ H w v) {l : List (W × W)} {kvs : List (L2.Key × V)} (r : RelD c ρ H l kvs) : RelD c ρ H (putD l k w) (putK kvs y v) := putG_ok kyW_ok h rw r
theorem dictOf_at {ρ : Rho} {H : Hp} {st : St} {w : W} {x : V} {d : Bool × List (W × W)} (r : Rel c ρ H st) (r1 : RelW c ρ H w x) (h : dictOf st w = some d) : ∃ a, x = .ref a ∧ ObjAt c ρ H a (.dict d.1 d.2) := by
  unfold dictOf at h
  split at h
  · split at h
    · rename_i n t l' e
      cases h
      simp only [RelW] at r1
      obtain ⟨a, e1, rfl⟩ := r1
      obtain ⟨a', e2, q⟩ := r.at_n e
      rw [e1] at e2; cases e2
      exact ⟨a, rfl, q⟩
    · cases h
  · cases h
/-- d[k] -/
theorem dget_ok {ρ : Rho} {H : Hp} {l : List (W × W)} {a : Addr} {k : W} {y : V} (q : ObjAt c ρ H a (.dict false l)) (hk : keyOk false k = true) (r : RelW c ρ H k y) : ∃ o, DGet H a y o ∧ LookD c ρ H (lookD l k) o := by
  obtain ⟨kvs, e1, rd⟩ := q
  obtain ⟨z, ek⟩ := isKey_ky (w := k) hk
  have ex := kyW_rel ek r
  subst ex
  exact ⟨_, DGet.k e1, lookG_ok kyW_ok ek rd⟩
theorem dgetT_ok {ρ : Rho} {H : Hp} {l : List (W × W)} {a : Addr} {w : W} {y : V} (q : ObjAt c ρ H a (.dict true l)) (hk : keyOk true w = true) (r : RelW c ρ H w y) : ∃ xs k b, DtIn c H a xs ∧ y = .ref b ∧ SqT c.K H b (k.map kV) ∧ LookT c ρ H (lookD l w) (atKey xs k) := by
  obtain ⟨z, ek⟩ := isTK_ky (w := w) hk
  obtain ⟨b, rfl, t⟩ := kyT_rel ek r
  obtain ⟨xs, d, rt⟩ := dt_in q
  exact ⟨xs, z, b, d, rfl, t.sq, relT_look ek rt⟩
theorem ix_dt [Pwx X c] (hu : X.A.units + 1 < cLine) (hK : X.K = c.K) : IxR X (fun x y H Q => ∃ a xs k b p v, x = .ref a ∧ y = .ref b ∧ DtIn c H a xs ∧ SqT c.K H b (k.map kV) ∧ atKey xs k = some p ∧ RelV v p.2 ∧ Q v H) := by
  intro value slice pins s σ H x y v u Q I rx ry h hs
  obtain ⟨a, xs, k, b, p, v', ex, ey, d, t, hp, rv, q⟩ := h
  subst ex ey
  obtain rfl : v = Value.ref a := rx
  obtain rfl : u = Value.ref b := ry
  have dd := d.dict hK I
  have hT := dd.typeIs
  unfold subscriptTail
  refine wpAny_bind ?_
  rw [getitemInPython_of_ne hT.not_modules]
  refine wpAny_bind (wpAny_specialOf hT PySem.F.slot_dict_getitem.lookup ?_)
  have fin : wpAny (model X.prog X.w) X.A (subscripted slice false (.ref a) (.ref b)) (fun r s₃ => wpAny (model X.prog X.w) X.A (letTemporaryGo value (.ref a) r >>= fun _ => pure r) (EP X pins σ Q) X.xe s₃) X.xe s := by
    rw [hs]
    exact wpAny_operating (wpAny_getItem_heap (tupleKind_room_in1 hu) (key_at hK I t) dd hp (wpAny_bind (wpAny_letTemporaryGo (wpAny_pure ⟨v', H, I.tok _, rv, q⟩))))
  first
    | exact wpAny_pure (wpAny_bind fin)
    | exact wpAny_bind (wpAny_pure (wpAny_bind fin))
    | exact wpAny_bind fin
theorem ix_dict (hu : X.A.units + 1 < cLine) : IxR X (fun x y H Q => ∃ a v, x = .ref a ∧ DGet H a y (some v) ∧ Q v H) := by
  intro value slice pins s σ H x y v u Q I rx ry h hs
  obtain ⟨a, v', ex, g, q⟩ := h
  subst ex
  obtain rfl : v = Value.ref a := rx
  have hT := dict_typeIs I g
  unfold subscriptTail
  refine wpAny_bind ?_
  rw [getitemInPython_of_ne hT.not_modules]
  refine wpAny_bind (wpAny_specialOf hT PySem.F.slot_dict_getitem.lookup ?_)
  have fin : wpAny (model X.prog X.w) X.A (subscripted slice false (.ref a) u) (fun r s₃ => wpAny (model X.prog X.w) X.A (letTemporaryGo value (.ref a) r >>= fun _ => pure r) (EP X pins σ Q) X.xe s₃) X.xe s := by
    rw [hs]
    exact wpAny_operating (d_getItem hu I g ry fun w' s3 I3 rw' => wpAny_bind (wpAny_letTemporaryGo (wpAny_pure ⟨v', H, I3, rw', q⟩)))
  first
    | exact wpAny_pure (wpAny_bind fin)
    | exact wpAny_bind (wpAny_pure (wpAny_bind fin))
    | exact wpAny_bind fin
theorem toDs_map : ∀ l : List W, toDs l = l.map toD
  | [] => rfl
  | x :: r => by simp only [toDs, List.map_cons, toDs_map r]
theorem any_eqv {d : Nat} {x : W} (hx : dat 60 x = true) : ∀ {l : List W}, datL d l = true → ((toDs l).any fun z => PyData.eqv z (toD x)) = l.any fun z => eqv z x
  | [], _ => rfl
  | y :: r, h => by
    simp only [datL, Bool.and_eq_true] at h
    simp only [toDs, List.any_cons, any_eqv hx h.2, eqv_toD _ _ y x h.1 hx]
def negB (n b : Bool) : Bool := if n then !b else b
/-- what is asked of x in y -/
inductive InK (c : Cfg) (H : Hp) (bb : Bool) : V → V → Prop where
  | sign (d : Nat) (t : Str) (h : decide (d ∈ t.cps.toList) = bb) : InK c H bb (.str ⟨#[d]⟩) (.str t)
  | text (a t : Str) (h : (!(Builtin.Str.occurrences t a 0 t.length 1).isEmpty) = bb) : InK c H bb (.str a) (.str t)
  | dct (y : V) (p : Addr) (o : Option V) (g : DGet H p y o) (h : o.isSome = bb) : InK c H bb y (.ref p)
  | dtt (b p : Addr) (k : List L2.Key) (xs : List (List L2.Key × Addr × Value)) (d : DtIn c H p xs) (t : SqT c.K H b (k.map kV)) (h : (atKey xs k).isSome = bb) : InK c H bb (.ref b) (.ref p)
  | lst (x : V) (p : Addr) (d : PyData) (ds : List PyData) (h1 : Dp c.K H x d) (h2 : Dp c.K H (.ref p) (.list ds) ∨ Dp c.K H (.ref p) (.tuple ds)) (h3 : d.canLay0 = true) (h4 : PyData.canLayAll0 ds = true) (h5 : PyData.depthAll ds ≤ 60) (h6 : (ds.any fun z => PyData.eqv z d) = bb) : InK c H bb x (.ref p)
theorem inR_ok {ρ : Rho} {H : Hp} {st : St} {w z : W} {x y : V} {b : Bool} (r : Rel c ρ H st) (r1 : RelW c ρ H w x) (r2 : RelW c ρ H z y) (h : inR st w z = some b) : InK c H b x y := by
  unfold inR at h
  split at h
  · cases relS_eq r1; cases relS_eq r2
    exact .sign _ _ (by rw [sS_tl]; exact Option.some.inj h)
  · cases relS_eq r1; cases relS_eq r2
    exact .text _ _ (Option.some.inj h)
  · split at h
    · rename_i l e
      split at h
      · rename_i hd
        obtain ⟨a, xs, rfl, rs, hq⟩ := listOf_ok r r2 e
        have l1 := toD_lay 60 _ hd.1
        have l2 := toDs_lay 59 _ hd.2
        have ds := toDs_ok 59 l xs hd.2 rs
        refine .lst x a (toD (seen st w)) (toDs l) (seen_ok r r1 hd.1) ?_ l1.1 l2.1 (Nat.le_trans l2.2 (by decide)) ?_
        · rcases hq with hq | hq
          · exact .inl (Dp.lst hq ds)
          · exact .inr (Dp.tup hq ds)
        · rw [any_eqv hd.1 hd.2]
          exact Option.some.inj h
      · cases h
    · split at h
      · rename_i d e
        split at h
        · rename_i hk
          obtain ⟨a, rfl, q⟩ := dictOf_at r r2 e
          obtain ⟨t, dl⟩ := d
          cases t with
          | false =>
            obtain ⟨o, g, lk⟩ := dget_ok q hk r1
            refine .dct _ a _ g ?_
            rw [← Option.some.inj h]
            revert lk
            show LookD c ρ H (lookD dl w) o → o.isSome = (lookD dl w).isSome
            cases lookD dl w <;> cases o <;> intro lk <;> first | rfl | exact lk.elim
          | true =>
            obtain ⟨xs, k, b, d, rfl, t, lk⟩ := dgetT_ok q hk r1
            refine .dtt b a k xs d t ?_
            rw [← Option.some.inj h]
            revert lk
            show LookT c ρ H (lookD dl w) (atKey xs k) → (atKey xs k).isSome = (lookD dl w).isSome
            cases lookD dl w <;> cases atKey xs k <;> intro lk <;> first | rfl | exact lk.elim
        · cases h
      · cases h
theorem in_at [Pwx X c] (hu : X.A.units + 64 < cLine) (hK : X.K = c.K) {pins : List (Addr × Obj)} {s : Shared} {σ : L2.St} {H : Hp} {x y : V} {v u : Value} {Q : VK} {b : Bool} (I : Inv X pins σ H s) (rx : RelV x v) (ry : RelV y u) (h : InK c H b x y) :
    (Q (.bl b) H → wpAny (model X.prog X.w) X.A (compareOp .In v u) (EP X pins σ Q) X.xe s) ∧ (Q (.bl (!b)) H → wpAny (model X.prog X.w) X.A (compareOp .NotIn v u) (EP X pins σ Q) X.xe s) := by
  cases h with
  | sign d t h => exact ⟨fun q => op_in_sign pins s σ H _ _ v u Q I rx ry ⟨d, t, rfl, rfl, by rw [h]; exact q⟩, fun q => op_notIn_sign pins s σ H _ _ v u Q I rx ry ⟨d, t, rfl, rfl, by rw [h]; exact q⟩⟩
  | text a t h => exact ⟨fun q => op_in_str pins s σ H _ _ v u Q I rx ry ⟨a, t, rfl, rfl, by rw [h]; exact q⟩, fun q => op_notin_str pins s σ H _ _ v u Q I rx ry ⟨a, t, rfl, rfl, by rw [h]; exact q⟩⟩
  | dct y p o g h =>
    cases (show u = Value.ref p from ry)
    subst h
    exact ⟨fun q => d_in (by omega) I g rx fun s3 I3 => ⟨.bl o.isSome, H, I3, rfl, q⟩, fun q => d_notIn (by omega) I g rx fun s3 I3 => ⟨.bl (!o.isSome), H, I3, rfl, q⟩⟩
  | dtt b' p k xs d t h =>
    cases (show u = Value.ref p from ry)
    cases (show v = Value.ref b' from rx)
    subst h
    have dd := d.dict hK I
    have ha := key_at hK I t
    exact ⟨fun q => wpAny_in_heap (tupleKind_room_in1 (by omega)) ha d.hs dd ⟨.bl (atKey xs k).isSome, H, I.tok _, rfl, q⟩, fun q => wpAny_notIn_heap (tupleKind_room_in1 (by omega)) ha d.hs dd ⟨.bl (!(atKey xs k).isSome), H, I.tok _, rfl, q⟩⟩
  | lst x p d ds h1 h2 h3 h4 h5 h6 =>
    rw [← hK] at h1 h2
    obtain ⟨as, r1⟩ := Dp.reads I d x v h1 rx
    have hmin : X.A.units + 1 + min (PyData.depthAll ds) d.depth < cLine := by
      have := Nat.min_le_left (PyData.depthAll ds) d.depth
      omega
    rcases h2 with h2 | h2
    · obtain ⟨bs, r2⟩ := Dp.reads I (.list ds) _ u h2 ry
      exact ⟨fun q => SeqAt.in_list_reads r2 r1 h4 h3 hmin ⟨.bl _, H, I, rfl, by rw [h6]; exact q⟩, fun q => SeqAt.notIn_list_reads r2 r1 h4 h3 hmin ⟨.bl _, H, I, rfl, by rw [h6]; exact q⟩⟩
    · obtain ⟨bs, r2⟩ := Dp.reads I (.tuple ds) _ u h2 ry
      exact ⟨fun q => SeqAt.in_tuple_reads r2 r1 h4 h3 hmin ⟨.bl _, H, I, rfl, by rw [h6]; exact q⟩, fun q => SeqAt.notIn_tuple_reads r2 r1 h4 h3 hmin ⟨.bl _, H, I, rfl, by rw [h6]; exact q⟩⟩
theorem in_ok [Pwx X c] (hu : X.A.units + 64 < cLine) (hK : X.K = c.K) : OpR X (compareOp .In) (rOp c fun x y st => okB st (inR st x y)) := by
  intro pins s σ H x y v u Q I rx ry h
  obtain ⟨ρ, st, w, z, r, r1, r2, h⟩ := h
  obtain ⟨b, e, q⟩ := okB_at h r
  exact (in_at hu hK I rx ry (inR_ok r r1 r2 e)).1 q
theorem nin_ok [Pwx X c] (hu : X.A.units + 64 < cLine) (hK : X.K = c.K) : OpR X (compareOp .NotIn) (rOp c fun x y st => okB st (notB (inR st x y))) := by
  intro pins s σ H x y v u Q I rx ry h
  obtain ⟨ρ, st, w, z, r, r1, r2, h⟩ := h
  obtain ⟨b, e, q⟩ := okB_at h r
  cases e2 : inR st w z with
  | none => rw [e2] at e; cases e
  | some b' =>
    rw [e2] at e
    have e3 : (!b') = b := Option.some.inj e
    exact (in_at hu hK I rx ry (inR_ok r r1 r2 e2)).2 (by rw [e3]; exact q)

/-- all of them -/
theorem op2_bin (hK : X.K = c.K) : ∀ {o : Operator} {p : Op2}, opB o p = true → OpR X (binaryOp o) (rOp c fun x y st => op2 p x y st)
  | .Add, p, h => by cases p <;> first | (cases h; done) | exact add_ok hK
  | .Sub, p, h => by cases p <;> first | (cases h; done) | exact sub_ok
  | .Mult, p, h => by cases p <;> first | (cases h; done) | exact mul_ok
  | .FloorDiv, p, h => by cases p <;> first | (cases h; done) | exact div_ok
  | .Mod, p, h => by cases p <;> first | (cases h; done) | exact mod_ok
  | .Pow, p, h => by cases p <;> first | (cases h; done) | exact pow_ok
  | .MatMult, p, h => by cases p <;> cases h
  | .Div, p, h => by cases p <;> cases h
  | .LShift, p, h => by cases p <;> cases h
  | .RShift, p, h => by cases p <;> cases h
  | .BitOr, p, h => by cases p <;> cases h
  | .BitXor, p, h => by cases p <;> cases h
  | .BitAnd, p, h => by cases p <;> cases h
theorem op2_cmp [Pwx X c] (hu : X.A.units + 64 < cLine) (hK : X.K = c.K) : ∀ {o : CmpOp} {p : Op2}, cmpB o p = true → OpR X (compareOp o) (rOp c fun x y st => op2 p x y st)
  | .Eq, p, h => by cases p <;> first | (cases h; done) | exact eq_ok hu hK
  | .NotEq, p, h => by cases p <;> first | (cases h; done) | exact ne_ok hu hK
  | .Lt, p, h => by cases p <;> first | (cases h; done) | exact lt_ok
  | .LtE, p, h => by cases p <;> first | (cases h; done) | exact le_ok
  | .Gt, p, h => by cases p <;> first | (cases h; done) | exact gt_ok
  | .GtE, p, h => by cases p <;> first | (cases h; done) | exact ge_ok hu hK
  | .Is, p, h => by cases p <;> first | (cases h; done) | exact is_ok
  | .IsNot, p, h => by cases p <;> first | (cases h; done) | exact isn_ok
  | .In, p, h => by cases p <;> first | (cases h; done) | exact in_ok hu hK
  | .NotIn, p, h => by cases p <;> first | (cases h; done) | exact nin_ok hu hK

/-! ### places, slices -/
theorem ixL_at {α : Type} (l : List α) (i : Int) : ixL l i = atI l i := by
  unfold ixL atI ixN
  split
  · rename_i h0
    split
    · rfl
    · rename_i h1
      show l[i.toNat]? = none
      exact List.getElem?_eq_none (by omega)
  · split <;> rfl
theorem rel_ix {ρ : Rho} {H : Hp} {l : List W} {xs : List V} {i : Int} {w : W} (rs : RelL c ρ H l xs) (h : ixL l i = some w) : ∃ v, atI xs i = some v ∧ RelW c ρ H w v := by
  rw [ixL_at] at h
  unfold atI at h ⊢
  rw [← rs.length]
  cases e : ixN l.length i with
  | none => rw [e] at h; cases h
  | some j =>
    rw [e] at h
    exact rs.get (i := j) h
theorem okO_at {ρ : Rho} {H : Hp} {st : St} {o : Option W} {Q : W → St → Rho → Hp → Prop} (h : Post c (fun _ _ _ => False) ρ H (okO st o) Q) (r : Rel c ρ H st) : ∃ w, o = some w ∧ Q w st ρ H := by
  cases o with
  | none => exact h.elim
  | some w => exact ⟨w, rfl, Post.here h r⟩
theorem ixD_ok [Pwx X c] (hu : X.A.units + 64 < cLine) (hK : X.K = c.K) {ρ : Rho} {st : St} {H : Hp} {w z : W} {x y : V} {Q : VK} (r : Rel c ρ H st) (r1 : RelW c ρ H w x) (r2 : RelW c ρ H z y) (h : Post c (fun _ _ _ => False) ρ H (ixD st w z) (QV c Q))
    (value slice : Expr) (pins : List (Addr × Obj)) (s : Shared) (σ : L2.St) (v u : Value) (I : Inv X pins σ H s) (rx : RelV x v) (ry : RelV y u) (hs : subscripted slice false v u = operate [v, u] (getItem v u)) :
    wpAny (model X.prog X.w) X.A (subscriptTail value slice v u) (EP X pins σ Q) X.xe s := by
  unfold ixD at h
  split at h
  · rename_i d e
    split at h
    · rename_i hk
      obtain ⟨w', e2, q⟩ := okO_at h r
      obtain ⟨a, rfl, qa⟩ := dictOf_at r r1 e
      obtain ⟨t, dl⟩ := d
      have e2 : lookD dl z = some w' := e2
      cases t with
      | false =>
        obtain ⟨o, g, lk⟩ := dget_ok qa hk r2
        rw [e2] at lk
        cases o with
        | none => exact lk.elim
        | some v' => exact ix_dict (by omega) value slice pins s σ H _ _ v u Q I rx ry ⟨a, v', rfl, g, q v' lk⟩ hs
      | true =>
        obtain ⟨xs, k, b, d, rfl, t, lk⟩ := dgetT_ok qa hk r2
        rw [e2] at lk
        cases ep : atKey xs k with
        | none => rw [ep] at lk; exact lk.elim
        | some p =>
          rw [ep] at lk
          obtain ⟨v', k1, k2⟩ := lk
          exact ix_dt (by omega) hK value slice pins s σ H _ _ v u Q I rx ry ⟨a, xs, k, b, p, v', rfl, rfl, d, t, ep, k2, q v' k1⟩ hs
    · exact h.elim
  · exact h.elim
theorem ixW_ok [Pwx X c] (hu : X.A.units + 64 < cLine) (hK : X.K = c.K) : IxR X (rOp c fun x y st => ixW st x y) := by
  intro value slice pins s σ H x y v u Q I rx ry h hs
  obtain ⟨ρ, st, w, z, r, r1, r2, h⟩ := h
  dsimp only at h
  unfold ixW at h
  split at h
  · cases relS_eq r1; cases rel_int r2
    split at h
    · rename_i hl
      split at h
      · rename_i q e
        rw [ixL_at] at e
        exact ix_str value slice pins s σ H _ _ v u Q I rx ry ⟨_, _, q, rfl, rfl, by rw [sS_len, sizeLine_eq]; exact hl, by rw [sS_tl]; exact e, QV.at h r (of_str _)⟩ hs
      · exact h.elim
    · exact h.elim
  · cases rel_int r2
    split at h
    · rename_i l e
      obtain ⟨w', e2, q⟩ := okO_at h r
      obtain ⟨a, xs, rfl, rs, hq⟩ := listOf_ok r r1 e
      obtain ⟨v', e3, r3⟩ := rel_ix rs e2
      refine ix_seq value slice pins s σ H _ _ v u Q I rx ry ?_ hs
      rcases hq with hq | hq
      · exact .inl ⟨a, xs, _, v', rfl, rfl, by rw [hK]; exact hq, e3, q v' r3⟩
      · exact .inr (.inl ⟨a, xs, _, v', rfl, rfl, by rw [hK]; exact hq, e3, q v' r3⟩)
    · exact ixD_ok hu hK r r1 r2 h value slice pins s σ v u I rx ry hs
  · exact ixD_ok hu hK r r1 r2 h value slice pins s σ v u I rx ry hs
/-! ### truth -/
theorem truth_ok {ρ : Rho} {H : Hp} {st : St} {w : W} {x : V} {b : Bool} (r : Rel c ρ H st) (r1 : RelW c ρ H w x) (h : truth st w = some b) : TruV c.K x H b := by
  unfold truth at h
  split at h
  · split at h
    · rename_i hl
      cases h; cases relS_eq r1
      refine ⟨by rw [sS_len, sizeLine_eq]; exact hl, ?_⟩
      rw [sS_len]
      cases ‹List Nat› <;> rfl
    · cases h
  · cases h; cases rel_non r1; rfl
  · cases h; cases rel_bl r1; rfl
  · cases h; cases rel_int r1; rfl
  · cases h
    simp only [RelW] at r1
    obtain ⟨a, xs, rfl, t, rs⟩ := r1
    refine .inr (.inl ⟨xs, t.sq, ?_⟩)
    have := rs.length
    cases xs <;> cases ‹List W› <;> simp at this <;> rfl
  · cases h
    simp only [RelW] at r1
    obtain ⟨a, xs, rfl, t, rs⟩ := r1
    refine .inl ⟨xs, t.sq, ?_⟩
    have := rs.length
    cases xs <;> cases ‹List W› <;> simp at this <;> rfl
  · split at h
    · rename_i n l e
      cases h
      simp only [RelW] at r1
      obtain ⟨a, e1, rfl⟩ := r1
      obtain ⟨a', e2, xs, e3, rs⟩ := r.at_n e
      rw [e1] at e2; cases e2
      refine .inl ⟨xs, SqL.of e3, ?_⟩
      have := rs.length
      cases xs <;> cases l <;> simp at this <;> rfl
    · cases h
  · cases h

/-! ### slices -/
theorem cut_len {α : Type} (l : List α) (lo hi : Option Int) : (cut l lo hi).length ≤ l.length := by
  unfold cut
  rw [List.length_take, List.length_drop]
  omega
theorem cutS_cut (s : List Nat) (a b : Option Int) : cutS (sS s) a b = sS (cut s a b) := by
  unfold cutS cut
  rw [sS_len] <;> simp
/-- a new list at p: a value, or in the store -/
theorem newL_at {ρ : Rho} {H : Hp} {st : St} {fz : Bool} {l : List W} {xs : List V} {Q : VK} (h : Post c (fun _ _ _ => False) ρ H (newL fz l st) (QV c Q)) (r : Rel c ρ H st) (rs : RelL c ρ H l xs) : ∀ p, H p = none → Q (.ref p) (upd H p (.lst xs)) := by
  intro p hp
  unfold newL at h
  split at h
  · exact h ρ _ (Ext.fresh hp) (r.fresh hp) _ (RelW.lst_new rs hp (r.out hp))
  · exact h (ρ.push p) _ (Ext.push hp) (r.push hp ⟨xs, upd_same, rs.ext (Ext.push hp)⟩) _ (RelW.ref_new r)
def rSl (c : Cfg) (fz : Bool) : V → Option Int → Option Int → Hp → VK → Prop := fun x lo hi H Q => ∃ ρ st w, Rel c ρ H st ∧ RelW c ρ H w x ∧ Post c (fun _ _ _ => False) ρ H (slW fz st w lo hi) (QV c Q)
theorem slW_ok (hK : X.K = c.K) {fz : Bool} : SlR X (rSl c fz) := by
  intro pins s σ H x v vl vu lo hi sl Q I rx hs pl pu h
  obtain ⟨ρ, st, w, r, r1, h⟩ := h
  unfold slW at h
  split at h
  · cases relS_eq r1
    split at h
    · rename_i hl
      exact sl_str pins s σ H _ v vl vu lo hi sl Q I rx hs pl pu ⟨_, rfl, by rw [sS_len, sizeLine_eq]; exact hl, by rw [cutS_cut]; exact QV.at h r (of_str _)⟩
    · exact h.elim
  · simp only [RelW] at r1
    obtain ⟨a, xs, rfl, t, rs⟩ := r1
    split at h
    · exact h.elim
    · rename_i hn
      refine sl_tup pins s σ H _ v vl vu lo hi sl Q I rx hs pl pu ⟨a, xs, rfl, by rw [hK]; exact t.sq, by rw [← rs.length]; exact hn, fun p hp => ?_⟩
      exact h ρ _ (Ext.fresh hp) (r.fresh hp) _ (RelW.tup_new (rs.cut lo hi) hp (r.out hp))
  · simp only [RelW] at r1
    obtain ⟨a, xs, rfl, t, rs⟩ := r1
    exact sl_list pins s σ H _ v vl vu lo hi sl Q I rx hs pl pu ⟨a, xs, rfl, by rw [hK]; exact t.sq, newL_at h r (rs.cut lo hi)⟩
  · split at h
    · rename_i n l' e
      simp only [RelW] at r1
      obtain ⟨a, e3, rfl⟩ := r1
      obtain ⟨a', e4, xs, e5, rs⟩ := r.at_n e
      rw [e3] at e4; cases e4
      exact sl_list pins s σ H _ v vl vu lo hi sl Q I rx hs pl pu ⟨a, xs, rfl, SqL.of e5, newL_at h r (rs.cut lo hi)⟩
    · exact h.elim
  · exact h.elim

/-! ### isinstance -/
theorem ty_one {a b : String} {r : Bool} (h : kitB a b = some r) {K : PySem.W.Frag} : PySem.W.kitOne K (.type a) (.type b) = some r := kit_ty h
def tyS : Ty → String
  | .int => "int"
  | .str => "str"
  | .bool => "bool"
  | .tup => "tuple"
  | .lst => "list"
  | _ => ""
theorem kAt_list {ρ : Rho} {H : Hp} {a : Addr} {xs : List V} (t : LstAt c ρ H a xs) : TyX c.K H (.ref a) (.type "list") := by
  rcases t with ⟨h | ⟨o, h⟩, _⟩ | ⟨o, its, n, h1, h2, _⟩
  · exact .base (.lst h)
  · exact .base (.frz h)
  · exact .kList h1 h2
theorem kAt_tup {ρ : Rho} {H : Hp} {a : Addr} {xs : List V} (t : TupAt c ρ H a xs) : TyX c.K H (.ref a) (.type "tuple") := by
  rcases t with ⟨h, _⟩ | ⟨_, o, its, n, h1, h2, _⟩
  · exact .base (.tup h)
  · exact .kTuple h1 h2
theorem isTy_ok {ρ : Rho} {H : Hp} {st : St} {w : W} {x : V} {t : Ty} {b : Bool} (r : Rel c ρ H st) (r1 : RelW c ρ H w x) (ht : (tyN t).isSome = true) (h : isTy st w t = some b) :
    ∃ a, TyX c.K H x (.type a) ∧ kitB a (tyS t) = some b := by
  unfold isTy at h
  split at h
  · cases rel_int r1
    refine ⟨"int", .base (.int _), ?_⟩
    split at h <;> cases h <;> (decide +kernel)
  · cases rel_bl r1
    refine ⟨"bool", .base (.bl _), ?_⟩
    split at h <;> cases h <;> (decide +kernel)
  · cases relS_eq r1
    refine ⟨"str", .base (.str _), ?_⟩
    split at h <;> cases h <;> (decide +kernel)
  · cases rel_non r1
    refine ⟨"NoneType", .base .non, ?_⟩
    split at h <;> cases h <;> (decide +kernel)
  · simp only [RelW] at r1
    obtain ⟨a, xs, rfl, t, rs⟩ := r1
    refine ⟨"tuple", kAt_tup t, ?_⟩
    split at h <;> cases h <;> (decide +kernel)
  · simp only [RelW] at r1
    obtain ⟨a, xs, rfl, t, rs⟩ := r1
    refine ⟨"list", kAt_list t, ?_⟩
    split at h <;> cases h <;> (decide +kernel)
  · split at h
    · rename_i n l e
      simp only [RelW] at r1
      obtain ⟨a, e3, rfl⟩ := r1
      obtain ⟨a', e4, xs, e5, rs⟩ := r.at_n e
      rw [e3] at e4; cases e4
      refine ⟨"list", .base (.lst e5), ?_⟩
      split at h <;> cases h <;> (decide +kernel)
    · cases h
  · cases t <;> first | (cases ht; done) | (cases h; done)
  · cases h

/-! ### built-ins -/
def rBi (c : Cfg) (f : List W → St → R W) : List V → Hp → VK → Prop := fun xs H Q => ∃ ρ st ws, Rel c ρ H st ∧ RelL c ρ H ws xs ∧ Post c (fun _ _ _ => False) ρ H (f ws st) (QV c Q)
theorem relL_one {ρ : Rho} {H : Hp} {w : W} {xs : List V} (h : RelL c ρ H [w] xs) : ∃ x, xs = [x] ∧ RelW c ρ H w x := by
  simp only [RelL] at h
  obtain ⟨x, _, rfl, r, rfl⟩ := h
  exact ⟨x, rfl, r⟩
theorem relL_two {ρ : Rho} {H : Hp} {w u : W} {xs : List V} (h : RelL c ρ H [w, u] xs) : ∃ x y, xs = [x, y] ∧ RelW c ρ H w x ∧ RelW c ρ H u y := by
  simp only [RelL] at h
  obtain ⟨x, _, rfl, r, y, _, rfl, r2, rfl⟩ := h
  exact ⟨x, y, rfl, r, r2⟩
theorem bls_of : ∀ {l : List W} {ns : List Bool}, allAs asBl l = some ns → l = ns.map .bl
  | [], ns, h => by cases h; rfl
  | x :: r, ns, h => by
    cases x with
    | bl i =>
      simp only [allAs, asBl] at h
      cases e : allAs asBl r with
      | none => rw [e] at h; cases h
      | some ys => rw [e] at h; cases h; rw [bls_of e]; rfl
    | _ => simp [allAs, asBl] at h
theorem strs_of : ∀ {l : List W} {ns : List (List Nat)}, allAs asStr l = some ns → l = ns.map .str
  | [], ns, h => by cases h; rfl
  | x :: r, ns, h => by
    cases x with
    | str i =>
      simp only [allAs, asStr] at h
      cases e : allAs asStr r with
      | none => rw [e] at h; cases h
      | some ys => rw [e] at h; cases h; rw [strs_of e]; rfl
    | _ => simp [allAs, asStr] at h
theorem relBls {ρ : Rho} {H : Hp} : ∀ {ns : List Bool} {xs : List V}, RelL c ρ H (ns.map .bl) xs → xs = ns.map .bl
  | [], xs, h => by simpa only [List.map_nil, RelL] using h
  | n :: ns, xs, h => by
    simp only [List.map_cons, RelL] at h
    obtain ⟨y, ys, rfl, r, rs⟩ := h
    rw [rel_bl r, relBls rs, List.map_cons]
theorem relStrs {ρ : Rho} {H : Hp} : ∀ {ns : List (List Nat)} {xs : List V}, RelL c ρ H (ns.map .str) xs → xs = (ns.map sS).map .str
  | [], xs, h => by simpa only [List.map_nil, RelL] using h
  | n :: ns, xs, h => by
    simp only [List.map_cons, RelL] at h
    obtain ⟨y, ys, rfl, r, rs⟩ := h
    rw [relS_eq r, relStrs rs, List.map_cons, List.map_cons]
theorem biAbs_ok {fz : Bool} : CallR X (.builtin "abs") (rBi c (biW fz .abs)) := by
  intro pins s σ H xs us Q I rv h
  obtain ⟨ρ, st, ws, r, rs, h⟩ := h
  simp only [biW] at h
  unfold biAbs at h
  split at h
  · obtain ⟨x, rfl, r1⟩ := relL_one rs
    cases rel_int r1
    exact call_abs pins s σ H _ us Q I rv ⟨_, rfl, QV.at h r (of_int _)⟩
  · exact h.elim
theorem biLen_ok (hK : X.K = c.K) {fz : Bool} : CallR X (.builtin "len") (rBi c (biW fz .len)) := by
  intro pins s σ H xs us Q I rv h
  obtain ⟨ρ, st, ws, r, rs, h⟩ := h
  simp only [biW] at h
  unfold biLen at h
  split at h
  · obtain ⟨x, rfl, r1⟩ := relL_one rs
    cases relS_eq r1
    split at h
    · rename_i hl
      refine call_len_str pins s σ H _ us Q I rv ⟨_, rfl, by rw [sS_len, sizeLine_eq]; exact hl, ?_⟩
      rw [sS_len]
      exact QV.at h r (of_int _)
    · exact h.elim
  · obtain ⟨x, rfl, r1⟩ := relL_one rs
    split at h
    · rename_i l e
      obtain ⟨a, xs, rfl, rs', hq⟩ := listOf_ok r r1 e
      refine call_len_seq pins s σ H _ us Q I rv ⟨a, xs, rfl, by rw [hK]; exact hq, ?_⟩
      rw [← rs'.length]
      exact QV.at h r (of_int _)
    · exact h.elim
  · exact h.elim
theorem keys_rel {ρ : Rho} {H : Hp} : ∀ {l : List (W × W)} {xs : List (List L2.Key × Addr × Value)}, RelT c ρ H l xs → RelL c ρ H (l.map (·.1)) (xs.map fun x => V.ref x.2.1)
  | [], _, h => by cases h; exact RelL.nil
  | p :: l, _, h => by
    cases h with
    | cons h1 h2 => exact RelL.cons (kyT_back h1.1 h1.2.1) (keys_rel h2)
theorem refs_of (xs : List (List L2.Key × Addr × Value)) : Vals (xs.map fun x => V.ref x.2.1) (xs.map fun x => Value.ref x.2.1) := by
  induction xs with
  | nil => exact .nil
  | cons x xs ih => exact .cons rfl ih
/-- list(d) -/
theorem call_list_dt [Pwx X c] (hc : X.calm = true) : CallR X (.type "list") (fun vs H Q => ∃ d xs, vs = [V.ref d] ∧ DtIn c H d xs ∧ ∀ p, H p = none → Q (.ref p) (upd H p (.lst (xs.map fun x => V.ref x.2.1)))) := by
  intro pins s σ H vs us Q I r h
  obtain ⟨d, xs, rfl, di, q⟩ := h
  obtain ⟨u, rfl, rx⟩ := r.one
  cases rx
  obtain ⟨o, es, ho, hx, hdt, he⟩ := di.raw I
  have l1 : es.size = xs.length := size_of_entries he
  have hz := di.hz
  refine PySem.W.kdl_call (kdl_raw di.hs hx hdt) (I.ok.hd hc) ho (by rw [sizeLine_eq]; have : xs.length ≤ 16777216 := hz; omega) fun h' tk acc' c' kp e it => ?_
  have ea : acc'.toList = xs.map fun x => Value.ref x.2.1 := by
    have hl : acc'.toList.length = xs.length := by rw [Array.length_toList, it.1]; exact l1
    apply List.ext_getElem?
    intro j
    rw [List.getElem?_map]
    cases hj : acc'.toList[j]? with
    | none =>
      have h1 := List.getElem?_eq_none_iff.mp hj
      rw [List.getElem?_eq_none (by omega)]
      all_goals rfl
    | some v =>
      obtain ⟨en, hen, hv⟩ := it.2 j v (by rw [← Array.getElem?_toList]; exact hj)
      have qe := entry_at he j
      rw [hen] at qe
      cases hb : xs[j]? with
      | none =>
        rw [hb] at qe
        exact nomatch (show some en = none from qe)
      | some b =>
        rw [hb] at qe
        have e2 : en = entryOfKey (tupleKind (mixKind X.prog X.w)) b := Option.some.inj qe
        rw [hv, e2]
        all_goals rfl
  have rv : Vals (xs.map fun x => V.ref x.2.1) acc'.toList := by rw [ea]; exact refs_of xs
  have hz' : (xs.map fun x => V.ref x.2.1).length ≤ sizeLine := by rw [List.length_map, sizeLine_eq]; have : xs.length ≤ 16777216 := hz; omega
  refine ⟨.ref s.heap.objs.size, _, I.laid (t' := tk) (o := .lst (xs.map fun x => V.ref x.2.1)) kp (Nat.le_refl _) ?_, rfl, q _ (I.hok.fresh (Nat.le_refl _))⟩
  exact ⟨hz', acc'.toList, c', rv, by rw [Array.toArray_toList]; exact e⟩
theorem biLst_ok [Pwx X c] (hc : X.calm = true) (hK : X.K = c.K) {fz : Bool} : CallR X (.type "list") (rBi c (biW fz .list)) := by
  intro pins s σ H xs us Q I rv h
  obtain ⟨ρ, st, ws, r, rs, h⟩ := h
  simp only [biW] at h
  unfold biLst at h
  split at h
  · obtain ⟨x, rfl, r1⟩ := relL_one rs
    split at h
    · rename_i l e
      obtain ⟨a, xs, rfl, rs', hq⟩ := listOf_ok r r1 e
      exact call_list_of pins s σ H _ us Q I rv ⟨a, xs, rfl, by rw [hK]; exact hq, newL_at h r rs'⟩
    · split at h
      · rename_i d e
        obtain ⟨a, rfl, qa⟩ := dictOf_at r r1 e
        obtain ⟨xs, di, rt⟩ := dt_in qa
        exact call_list_dt hc pins s σ H _ us Q I rv ⟨a, xs, rfl, di, fun p hp => newL_at h r (keys_rel rt) p hp⟩
      · exact h.elim
  · exact h.elim
theorem biSum_ok (hc : X.calm = true) (hK : X.K = c.K) {fz : Bool} : CallR X (.builtin "sum") (rBi c (biW fz .sum)) := by
  intro pins s σ H xs us Q I rv h
  obtain ⟨ρ, st, ws, r, rs, h⟩ := h
  simp only [biW] at h
  unfold biSum at h
  split at h
  · obtain ⟨x, rfl, r1⟩ := relL_one rs
    split at h
    · rename_i l e
      split at h
      · rename_i ns e2
        obtain ⟨a, xs, rfl, rs', hq⟩ := lstOf_ok0 r r1 e
        cases ints_of e2
        cases relInts rs'
        exact cr_sum hc pins s σ H _ us Q I rv ⟨a, ns, rfl, by rw [hK]; exact hq, QV.at h r (of_int _)⟩
      · exact h.elim
    · exact h.elim
  · exact h.elim
theorem biAny_ok (hc : X.calm = true) (hK : X.K = c.K) {fz : Bool} : CallR X (.builtin "any") (rBi c (biW fz .any)) := by
  intro pins s σ H xs us Q I rv h
  obtain ⟨ρ, st, ws, r, rs, h⟩ := h
  simp only [biW] at h
  unfold biAny at h
  split at h
  · obtain ⟨x, rfl, r1⟩ := relL_one rs
    split at h
    · rename_i l e
      split at h
      · rename_i ns e2
        obtain ⟨a, xs, rfl, rs', hq⟩ := lstOf_ok0 r r1 e
        cases bls_of e2
        cases relBls rs'
        exact cr_any hc pins s σ H _ us Q I rv ⟨a, ns, rfl, by rw [hK]; exact hq, QV.at h r (of_bl _)⟩
      · exact h.elim
    · exact h.elim
  · exact h.elim
theorem biAll_ok (hc : X.calm = true) (hK : X.K = c.K) {fz : Bool} : CallR X (.builtin "all") (rBi c (biW fz .all)) := by
  intro pins s σ H xs us Q I rv h
  obtain ⟨ρ, st, ws, r, rs, h⟩ := h
  simp only [biW] at h
  unfold biAll at h
  split at h
  · obtain ⟨x, rfl, r1⟩ := relL_one rs
    split at h
    · rename_i l e
      split at h
      · rename_i ns e2
        obtain ⟨a, xs, rfl, rs', hq⟩ := lstOf_ok0 r r1 e
        cases bls_of e2
        cases relBls rs'
        exact cr_all hc pins s σ H _ us Q I rv ⟨a, ns, rfl, by rw [hK]; exact hq, QV.at h r (of_bl _)⟩
      · exact h.elim
    · exact h.elim
  · exact h.elim
theorem maxI_is : ∀ (ns : List Int) (n m : Int), m ∈ n :: ns → (∀ y ∈ n :: ns, y ≤ m) → maxI n ns = m
  | [], n, m, hm, _ => by simp at hm; exact hm.symm
  | x :: r, n, m, hm, hb => by
    unfold maxI
    refine maxI_is r _ m ?_ ?_
    · have h1 := hb n (by simp)
      have h2 := hb x (by simp)
      simp only [List.mem_cons] at hm ⊢
      rcases hm with e | e | e
      · left; split <;> omega
      · left; split <;> omega
      · right; exact e
    · intro y hy
      rcases List.mem_cons.mp hy with e | e
      · subst e
        split
        · exact hb x (by simp)
        · exact hb n (by simp)
      · exact hb y (by simp [e])
theorem minI_is : ∀ (ns : List Int) (n m : Int), m ∈ n :: ns → (∀ y ∈ n :: ns, m ≤ y) → minI n ns = m
  | [], n, m, hm, _ => by simp at hm; exact hm.symm
  | x :: r, n, m, hm, hb => by
    unfold minI
    refine minI_is r _ m ?_ ?_
    · have h1 := hb n (by simp)
      have h2 := hb x (by simp)
      simp only [List.mem_cons] at hm ⊢
      rcases hm with e | e | e
      · left; split <;> omega
      · left; split <;> omega
      · right; exact e
    · intro y hy
      rcases List.mem_cons.mp hy with e | e
      · subst e
        split
        · exact hb x (by simp)
        · exact hb n (by simp)
      · exact hb y (by simp [e])
theorem biMax_ok (hc : X.calm = true) (hK : X.K = c.K) {fz : Bool} : CallR X (.builtin "max") (rBi c (biW fz .max)) := by
  intro pins s σ H xs us Q I rv h
  obtain ⟨ρ, st, ws, r, rs, h⟩ := h
  simp only [biW] at h
  unfold biMax at h
  split at h
  · obtain ⟨x, y, rfl, r1, r2⟩ := relL_two rs
    cases rel_int r1; cases rel_int r2
    exact call_max2 hc pins s σ H _ us Q I rv ⟨_, _, rfl, QV.at h r (of_int _)⟩
  · obtain ⟨x, rfl, r1⟩ := relL_one rs
    split at h
    · rename_i l e
      split at h
      · rename_i n ns e2
        obtain ⟨a, xs, rfl, rs', hq⟩ := lstOf_ok0 r r1 e
        cases ints_of e2
        cases relInts rs'
        refine cr_max hc pins s σ H _ us Q I rv ⟨a, n :: ns, rfl, by rw [hK]; exact hq, by simp, fun m hm hb => ?_⟩
        rw [maxI_is ns n m hm hb] at h
        exact QV.at h r (of_int _)
      · exact h.elim
    · exact h.elim
  · exact h.elim
theorem biMin_ok (hc : X.calm = true) (hK : X.K = c.K) {fz : Bool} : CallR X (.builtin "min") (rBi c (biW fz .min)) := by
  intro pins s σ H xs us Q I rv h
  obtain ⟨ρ, st, ws, r, rs, h⟩ := h
  simp only [biW] at h
  unfold biMin at h
  split at h
  · obtain ⟨x, y, rfl, r1, r2⟩ := relL_two rs
    cases rel_int r1; cases rel_int r2
    exact call_min2 hc pins s σ H _ us Q I rv ⟨_, _, rfl, QV.at h r (of_int _)⟩
  · obtain ⟨x, rfl, r1⟩ := relL_one rs
    split at h
    · rename_i l e
      split at h
      · rename_i n ns e2
        obtain ⟨a, xs, rfl, rs', hq⟩ := lstOf_ok0 r r1 e
        cases ints_of e2
        cases relInts rs'
        refine cr_min hc pins s σ H _ us Q I rv ⟨a, n :: ns, rfl, by rw [hK]; exact hq, by simp, fun m hm hb => ?_⟩
        rw [minI_is ns n m hm hb] at h
        exact QV.at h r (of_int _)
      · exact h.elim
    · exact h.elim
  · exact h.elim
theorem biDivmod_ok {fz : Bool} : CallR X (.builtin "divmod") (rBi c (biW fz .divmod)) := by
  intro pins s σ H xs us Q I rv h
  obtain ⟨ρ, st, ws, r, rs, h⟩ := h
  simp only [biW] at h
  unfold biDivmod at h
  split at h
  · obtain ⟨x, y, rfl, r1, r2⟩ := relL_two rs
    cases rel_int r1; cases rel_int r2
    split at h
    · rename_i hj
      exact call_divmod pins s σ H _ us Q I rv ⟨_, _, rfl, hj, fun p hp => h ρ _ (Ext.fresh hp) (r.fresh hp) _ (RelW.tup_new (RelL.cons (of_int _) (RelL.cons (of_int _) RelL.nil)) hp (r.out hp))⟩
    · exact h.elim
  · exact h.elim
theorem biStr_ok {fz : Bool} : CallR X (.type "str") (rBi c (biW fz .str)) := by
  intro pins s σ H xs us Q I rv h
  obtain ⟨ρ, st, ws, r, rs, h⟩ := h
  simp only [biW] at h
  unfold biStr at h
  split at h
  · obtain ⟨x, rfl, r1⟩ := relL_one rs
    cases rel_int r1
    split at h
    · rename_i i hl
      refine call_str_int pins s σ H _ us Q I rv ⟨i, rfl, hl, ?_⟩
      have z := QV.at h r (of_str _)
      unfold numS uS at z
      rw [sS_of] at z
      exact z
    · exact h.elim
  · obtain ⟨x, rfl, r1⟩ := relL_one rs
    cases relS_eq r1
    exact SkE.call_str_str pins s σ H _ us Q I rv ⟨_, rfl, QV.at h r (of_str _)⟩
  · exact h.elim
theorem biInt_ok {fz : Bool} : CallR X (.type "int") (rBi c (biW fz .int)) := by
  intro pins s σ H xs us Q I rv h
  obtain ⟨ρ, st, ws, r, rs, h⟩ := h
  simp only [biW] at h
  unfold biInt at h
  split at h
  · obtain ⟨x, rfl, r1⟩ := relL_one rs
    cases rel_int r1
    exact call_int1 pins s σ H _ us Q I rv (.inl ⟨_, rfl, QV.at h r (of_int _)⟩)
  · obtain ⟨x, rfl, r1⟩ := relL_one rs
    cases rel_bl r1
    exact call_int1 pins s σ H _ us Q I rv (.inr ⟨_, rfl, QV.at h r (of_int _)⟩)
  · obtain ⟨x, rfl, r1⟩ := relL_one rs
    cases relS_eq r1
    split at h
    · rename_i l hl
      unfold digs at hl
      simp only [Bool.and_eq_true, Bool.not_eq_true', decide_eq_true_eq, List.all_eq_true] at hl
      obtain ⟨⟨h1, h2⟩, h3⟩ := hl
      have e := intText_digits (x := sS l) (by rw [sS_tl]; intro c hc; exact h2 c hc) (by rw [sS_tl]; intro e; rw [e] at h1; cases h1) (by rw [sS_len]; omega)
      rw [sS_tl] at e
      exact call_int_str pins s σ H _ us Q I rv ⟨_, _, rfl, e, by rw [sS_len]; exact h3, QV.at h r (of_int _)⟩
    · exact h.elim
  · exact h.elim
/-- a value that stands for one of ours -/
def StF (c : Cfg) (ρ : Rho) (H : Hp) (u : Value) (w : W) : Prop := ∃ x, RelV x u ∧ RelW c ρ H w x
theorem each_of {ρ : Rho} {H : Hp} : ∀ {l : List W} {xs : List V} {us : List Value}, RelL c ρ H l xs → Vals xs us → PySem.W.EachIs (StF c ρ H) us l
  | [], _, _, h, r => by
    simp only [RelL] at h; subst h
    cases r
    exact .nil
  | w :: l, _, _, h, r => by
    simp only [RelL] at h
    obtain ⟨y, ys, rfl, h1, h2⟩ := h
    cases r with
    | cons r1 r2 => exact .cons ⟨y, r1, h1⟩ (each_of h2 r2)
theorem each_back {ρ : Rho} {H : Hp} : ∀ {l : List W} {us : List Value}, PySem.W.EachIs (StF c ρ H) us l → ∃ xs, RelL c ρ H l xs ∧ Vals xs us
  | _, _, .nil => ⟨[], RelL.nil, .nil⟩
  | _, _, .cons ⟨x, h1, h2⟩ t => by
    obtain ⟨xs, k1, k2⟩ := each_back t
    exact ⟨x :: xs, RelL.cons h2 k1, .cons h1 k2⟩
theorem datL_mem {d : Nat} : ∀ {l : List W}, datL d l = true → ∀ w ∈ l, dat d w = true
  | [], _, w, hw => by cases hw
  | x :: r, h, w, hw => by
    simp only [datL, Bool.and_eq_true] at h
    rcases List.mem_cons.mp hw with e | e
    · subst e; exact h.1
    · exact datL_mem h.2 w e
theorem each_and {α β : Type} {R S : α → β → Prop} {P : β → Prop} (k : ∀ a b, P b → R a b → S a b) : ∀ {as : List α} {bs : List β}, PySem.W.EachIs R as bs → (∀ b ∈ bs, P b) → PySem.W.EachIs S as bs
  | _, _, .nil, _ => .nil
  | _, _, .cons h t, hp => .cons (k _ _ (hp _ List.mem_cons_self) h) (each_and k t fun b hb => hp b (List.mem_cons_of_mem _ hb))
theorem biSorted_ok (hu : X.A.units + 64 < cLine) (hK : X.K = c.K) {fz : Bool} : CallR X (.builtin "sorted") (rBi c (biW fz .sorted)) := by
  intro pins s σ H xs us Q I rv h
  obtain ⟨ρ, st, ws, r, rs, h⟩ := h
  simp only [biW] at h
  unfold biSorted at h
  split at h
  · obtain ⟨x, rfl, r1⟩ := relL_one rs
    split at h
    · rename_i l e
      split at h
      · rename_i ok
        obtain ⟨a, xs, rfl, rs', hq⟩ := lstOf_ok0 r r1 e
        rw [← hK] at hq
        obtain ⟨its, vr, pl, hz⟩ := I.list hq
        rw [Vals.ref1 rv]
        unfold srtOk at ok
        simp only [Bool.and_eq_true, decide_eq_true_eq, List.all_eq_true, Bool.or_eq_true] at ok
        obtain ⟨⟨⟨k1, k2⟩, k3⟩, k4⟩ := ok
        have E := each_of rs' vr
        refine PySem.W.sorted_data (R := StF c ρ H) (bs := l) (enc := toD) pl.isList E (each_and (P := fun w => dat 59 w = true) (fun u w hw hx => ?_) E (datL_mem k1)) (fun d hd d' hd' => ?_) ?_ (by rw [sizeLine_eq]; exact k4) (fun w hw => ?_) fun out hl EO => ?_
        · obtain ⟨x, h1, h2⟩ := hx
          have hD := toD_ok 59 w x hw h2
          rw [← hK] at hD
          exact Dp.reads I _ _ _ hD h1
        · obtain ⟨w, hw, rfl⟩ := List.mem_map.mp hd
          obtain ⟨w', hw', rfl⟩ := List.mem_map.mp hd'
          exact k2 w hw w' hw'
        · rcases k3 with k3 | k3
          · refine .inl fun d hd => ?_
            obtain ⟨w, hw, rfl⟩ := List.mem_map.mp hd
            have := k3 w hw
            unfold isTup1 at this
            split at this
            · rename_i y ys; exact ⟨toD y, toDs ys, by simp only [toD, toDs]⟩
            · cases this
          · refine .inr fun d hd => ?_
            obtain ⟨w, hw, rfl⟩ := List.mem_map.mp hd
            have := k3 w hw
            cases w <;> first | (simp [isPlain] at this; done) | (refine ⟨by simp [toD], fun xs => by simp [toD]⟩)
        · have := (toD_lay 59 w (datL_mem k1 w hw)).2
          omega
        · obtain ⟨ys, y1, y2⟩ := each_back EO
          obtain ⟨n, hn⟩ := PyProof.Rows.sortedAll_at s.heap its out.toArray
          have fr : H (s.heap.objs.size + 1) = none := I.hok.fresh (Nat.le_succ _)
          have ly : ys.length ≤ sizeLine := by
            rw [← y1.length, List.length_mergeSort, sizeLine_eq]; exact k4
          refine ⟨.ref _, _, I.laid (t' := s.toks) (o := .lst ys) (fun b o q => PyProof.Rows.sortedAll_old q) (Nat.le_succ _) ⟨ly, out, n, y2, hn⟩, rfl, ?_⟩
          exact newL_at h r y1 _ fr
      · exact h.elim
    · exact h.elim
  · exact h.elim
def biV : Bi → Value
  | .abs => .builtin "abs"
  | .len => .builtin "len"
  | .str => .type "str"
  | .int => .type "int"
  | .list => .type "list"
  | .sum => .builtin "sum"
  | .min => .builtin "min"
  | .max => .builtin "max"
  | .any => .builtin "any"
  | .all => .builtin "all"
  | .divmod => .builtin "divmod"
  | .sorted => .builtin "sorted"
  | .set_ => .type "set"
  | .dict => .type "dict"
theorem biW_ok [Pwx X c] (hc : X.calm = true) (hu : X.A.units + 64 < cLine) (hK : X.K = c.K) {fz : Bool} (b : Bi) : CallR X (biV b) (rBi c (biW fz b)) := by
  cases b with
  | abs => exact biAbs_ok
  | len => exact biLen_ok hK
  | list => exact biLst_ok hc hK
  | sum => exact biSum_ok hc hK
  | any => exact biAny_ok hc hK
  | all => exact biAll_ok hc hK
  | max => exact biMax_ok hc hK
  | min => exact biMin_ok hc hK
  | divmod => exact biDivmod_ok
  | str => exact biStr_ok
  | int => exact biInt_ok
  | sorted => exact biSorted_ok hu hK
  | _ => intro pins s σ H xs us Q I rv h; obtain ⟨ρ, st, ws, r, rs, h⟩ := h; exact h.elim
end
end Px

set_option linter.all false
set_option maxRecDepth 100000
/-! Px5: expressions: what the runner gives is what the program's text gives. -/
namespace Px
open PySem PySem.Spec PyProof.Rows L2

/-! ### what never raises -/
def NoX {α : Type} : R α → Prop
  | .exc _ _ _ => False
  | _ => True
theorem Post.nox {c : Cfg} {Wx E : XK} {ρ : Rho} {H : Hp} {α : Type} {r : R α} {Q : α → St → Rho → Hp → Prop} (n : NoX r) (h : Post c Wx ρ H r Q) : Post c E ρ H r Q := by
  cases r with
  | exc _ _ _ => exact n.elim
  | ok _ _ => exact h
  | bad => exact h
theorem nox_okB (st : St) (o : Option Bool) : NoX (okB st o) := by cases o <;> trivial
theorem nox_okO (st : St) (o : Option W) : NoX (okO st o) := by cases o <;> trivial
theorem nox_newL (fz : Bool) (l : List W) (st : St) : NoX (newL fz l st) := by unfold newL; split <;> trivial
theorem nox_op2 (o : Op2) (x y : W) (st : St) : NoX (op2 o x y st) := by
  cases o <;> unfold op2 <;> dsimp only
  all_goals first
    | exact nox_okB _ _
    | (unfold opAdd; split <;> first | trivial | (split <;> first | trivial | (split <;> trivial)))
    | (unfold opSub; split <;> first | trivial | (split <;> trivial))
    | (unfold opMul; split <;> first | trivial | (split <;> trivial))
    | (unfold opDiv; split <;> first | trivial | (split <;> trivial))
    | (unfold opMod; split <;> first | trivial | (split <;> trivial))
    | (unfold opPow; split <;> first | trivial | (split <;> trivial))
    | (unfold opLt; split <;> first | trivial | (split <;> trivial))
    | (unfold opLe; split <;> first | trivial | (split <;> trivial))
    | (unfold opGe; split <;> first | trivial | (split <;> first | trivial | (split <;> trivial)))
theorem nox_ixD (st : St) (x y : W) : NoX (ixD st x y) := by
  unfold ixD
  split
  · split
    · exact nox_okO _ _
    · trivial
  · trivial
theorem nox_ixW (st : St) (x y : W) : NoX (ixW st x y) := by
  unfold ixW
  split
  · split
    · split <;> trivial
    · trivial
  · split
    · exact nox_okO _ _
    · exact nox_ixD _ _ _
  · exact nox_ixD _ _ _
theorem nox_slW (fz : Bool) (st : St) (w : W) (a b : Option Int) : NoX (slW fz st w a b) := by
  unfold slW
  split
  · split <;> trivial
  · split <;> trivial
  · exact nox_newL _ _ _
  · split
    · exact nox_newL _ _ _
    · trivial
  · trivial
theorem nox_biW (fz : Bool) (b : Bi) (ws : List W) (st : St) : NoX (biW fz b ws st) := by
  cases b <;> simp only [biW]
  · unfold biAbs; split <;> trivial
  · unfold biLen; split <;> first | trivial | (split <;> trivial)
  · unfold biStr; split <;> first | trivial | (split <;> trivial)
  · unfold biInt; split <;> first | trivial | (split <;> trivial)
  · unfold biLst; split <;> first | trivial | (split <;> first | trivial | exact nox_newL _ _ _ | (split <;> first | trivial | exact nox_newL _ _ _))
  · unfold biSum; split <;> first | trivial | (split <;> first | trivial | (split <;> trivial))
  · unfold biMin; split <;> first | trivial | (split <;> first | trivial | (split <;> trivial))
  · unfold biMax; split <;> first | trivial | (split <;> first | trivial | (split <;> trivial))
  · unfold biAny; split <;> first | trivial | (split <;> first | trivial | (split <;> trivial))
  · unfold biAll; split <;> first | trivial | (split <;> first | trivial | (split <;> trivial))
  · unfold biDivmod; split <;> first | trivial | (split <;> trivial)
  · unfold biSorted; split <;> first | trivial | (split <;> first | trivial | (split <;> first | trivial | exact nox_newL _ _ _))
  · trivial
  · trivial
theorem nox_methW (fz : Bool) (m : M) (w : W) (ws : List W) (st : St) : NoX (methW fz m w ws st) := by
  cases m <;> simp only [methW]
  all_goals first
    | trivial
    | (unfold mAppend; split <;> first | trivial | (split <;> first | trivial | (split <;> trivial)))
    | (unfold mExtend; split <;> first | trivial | (split <;> first | trivial | (split <;> trivial)))
    | (unfold mPop; split <;> first | trivial | (split <;> first | trivial | (split <;> trivial)))
    | (unfold mClear; split <;> first | trivial | (split <;> trivial))
    | (unfold mSplit; split <;> first | trivial | (split <;> first | trivial | exact nox_newL _ _ _))
    | (unfold mPartition; split <;> first | trivial | (split <;> trivial))
    | (unfold mJoin; split <;> first | trivial | (split <;> first | trivial | (split <;> first | trivial | (split <;> trivial))))
    | (unfold mZfill; split <;> first | trivial | (split <;> trivial))
    | (unfold mCount; split <;> trivial)

section
variable {X : Cx} {c : Cfg} {Wx : WX} {ea eb ec : Env → St → R W} {a b d : Expr} {pos : Pos}

/-! ### names, constants -/
theorem E_name {i : Nat} {x : Str} (hN : X.N[i]? = some x) (hv : Vis X.env.scope x) (p : plainN x = true) : PE X (.Name x pos) (tE c Wx fun e s => (match e[i]? with
    | some (some w) => .ok w s
    | _ => .bad)) := by
  simp only [plainN, Bool.and_eq_true, Bool.not_eq_true'] at p
  refine PE.weak (pe_var hN hv p.1.1.1 p.1.1.2) fun σ H Q h => ?_
  obtain ⟨ρ, st, env, r, re, h⟩ := h
  dsimp only at h
  split at h
  · rename_i w e
    obtain ⟨v, e1, r1⟩ := re.2 i w e
    exact ⟨v, e1, Post.here h r v r1⟩
  · exact h.elim
theorem E_const {w : W} {v : V} {e : Expr} (h : PE X e (tC v)) (r : ∀ ρ H, RelW c ρ H w v) : PE X e (tE c Wx fun _ s => .ok w s) := PE.weak h fun σ H Q q => by
  obtain ⟨ρ, st, env, r1, re, q⟩ := q
  exact Post.here q r1 v (r ρ H)
theorem E_k {cst : Const} {j : Nat} {w : W} (h : constB cst w = true) : PE X (.Constant cst j pos) (tE c Wx fun _ s => .ok w s) := by
  unfold constB at h
  split at h
  · exact E_const pe_non fun _ _ => of_non
  · have e := beq_iff_eq.mp h
    subst e
    exact E_const pe_bl fun _ _ => of_bl _
  · have e := beq_iff_eq.mp h
    subst e
    exact E_const pe_int fun _ _ => of_int _
  · have e := beq_iff_eq.mp h
    subst e
    exact E_const pe_str fun _ _ => by
      have := of_str (c := c) (ρ := by assumption) (H := by assumption) (Array.toList (Str.cps (by assumption)))
      rw [sS_of] at this
      exact this
  · cases h

/-! ### operators -/
theorem two {r : R2} {f : W → W → St → R W} {σ : L2.St} {H : Hp} {Q : VK} (hr : ∀ x y H1, (∃ ρ st w u, Rel c ρ H1 st ∧ RelW c ρ H1 w x ∧ RelW c ρ H1 u y ∧ Post c (fun k d H' => Wx k d σ H') ρ H1 (f w u st) (QV c Q)) → r x y H1 Q)
    (h : tE c Wx (fun e s => (ea e s).bind fun x s => (eb e s).bind fun y s => f x y s) σ H Q) : tOp r (tE c Wx ea) (tE c Wx eb) σ H Q := by
  obtain ⟨ρ, st, env, r1, re, h⟩ := h
  refine ⟨ρ, st, env, r1, re, h.bind.imp fun w1 st1 ρ1 H1 _ x1 r2 h v1 rv1 => ?_⟩
  refine ⟨ρ1, st1, env, r2, re.ext x1, h.bind.imp fun w2 st2 ρ2 H2 _ x2 r3 h v2 rv2 => ?_⟩
  exact hr v1 v2 H2 ⟨ρ2, st2, w1, w2, r3, rv1.ext x2, rv2, h⟩
theorem rOp_of {f : W → W → St → R W} (n : ∀ x y st, NoX (f x y st)) {σ : L2.St} {Q : VK} (x y : V) (H1 : Hp) (h : ∃ ρ st w u, Rel c ρ H1 st ∧ RelW c ρ H1 w x ∧ RelW c ρ H1 u y ∧ Post c (fun k d H' => Wx k d σ H') ρ H1 (f w u st) (QV c Q)) : rOp c f x y H1 Q := by
  obtain ⟨ρ, st, w, u, r, r1, r2, h⟩ := h
  exact ⟨ρ, st, w, u, r, r1, r2, h.nox (n w u st)⟩
theorem E_op (hK : X.K = c.K) {o : Operator} {p : Op2} (ho : opB o p = true) (ha : PE X a (tE c Wx ea)) (hb : PE X b (tE c Wx eb)) : PE X (.BinOp a o b pos) (tE c Wx fun e s => (ea e s).bind fun x s => (eb e s).bind fun y s => op2 p x y s) :=
  PE.weak (pe_op (op2_bin hK ho) ha hb) fun σ H Q h => two (rOp_of (nox_op2 p)) h
theorem E_cmp [Pwx X c] (hu : X.A.units + 64 < cLine) (hK : X.K = c.K) {o : CmpOp} {p : Op2} (ho : cmpB o p = true) (ha : PE X a (tE c Wx ea)) (hb : PE X b (tE c Wx eb)) (hm : behindInMarks o b = false) : PE X (.Compare a [o] [b] pos) (tE c Wx fun e s => (ea e s).bind fun x s => (eb e s).bind fun y s => op2 p x y s) :=
  PE.weak (pe_cmpR (op2_cmp hu hK ho) ha hb hm) fun σ H Q h => two (rOp_of (nox_op2 p)) h
/-- a comparison gives a truth -/
def isBl : W → Prop
  | .bl _ => True
  | _ => False
def GivesB (r : R W) : Prop := ∀ w s, r = .ok w s → ∃ b, w = .bl b
theorem cmp_bool {o : CmpOp} {p : Op2} (ho : cmpB o p = true) (x y : W) (st : St) : GivesB (op2 p x y st) := by
  have hB : ∀ ob : Option Bool, GivesB (okB st ob) := fun ob w s e => by
    cases ob with
    | none => cases e
    | some b => cases e; exact ⟨b, rfl⟩
  have hLt : ∀ x y, GivesB (opLt st x y) := fun x y w s e => by
    unfold opLt at e
    split at e <;> cases e
    exact ⟨_, rfl⟩
  have hLe : ∀ x y, GivesB (opLe st x y) := fun x y w s e => by
    unfold opLe at e
    split at e <;> cases e
    exact ⟨_, rfl⟩
  have hGe : ∀ x y, GivesB (opGe st x y) := fun x y w s e => by
    unfold opGe at e
    split at e
    · cases e
      exact ⟨_, rfl⟩
    · split at e
      · split at e <;> cases e
        exact ⟨_, rfl⟩
      · cases e
    · cases e
  cases o <;> cases p <;> first | (cases ho; done) | exact hB _ | exact hLt _ _ | exact hLe _ _ | exact hGe _ _
theorem T_cmp [Pwx X c] (hu : X.A.units + 64 < cLine) (hK : X.K = c.K) {o : CmpOp} {p : Op2} (ho : cmpB o p = true) (ha : PE X a (tE c Wx ea)) (hb : PE X b (tE c Wx eb)) (hm : behindInMarks o b = false) : PT X (.Compare a [o] [b] pos) (tT c Wx fun e s => (ea e s).bind fun x s => (eb e s).bind fun y s => op2 p x y s) := by
  refine PT.weak (pt_cmpR (op2_cmp hu hK ho) ha hb hm) fun σ H Q h => ?_
  refine two (r := rOp c fun x y s => op2 p x y s) (Q := fun x H' => ∃ k, x = .bl k ∧ Q k H') (rOp_of (nox_op2 p)) ?_
  obtain ⟨ρ, st, env, r1, re, h⟩ := h
  refine ⟨ρ, st, env, r1, re, h.imp fun w st' ρ' H' e x r h v rv => ?_⟩
  obtain ⟨k, hk, q⟩ := h
  have e2 : GivesB ((ea env st).bind fun x s => (eb env s).bind fun y s => op2 p x y s) := by
    cases ea env st with
    | bad => intro _ _ e; cases e
    | exc _ _ _ => intro _ _ e; cases e
    | ok w1 s1 =>
      show GivesB ((eb env s1).bind fun y s => op2 p w1 y s)
      cases eb env s1 with
      | bad => intro _ _ e; cases e
      | exc _ _ _ => intro _ _ e; cases e
      | ok w2 s2 => exact cmp_bool ho w1 w2 s2
  obtain ⟨b2, rfl⟩ := e2 _ _ e
  cases hk
  exact ⟨_, rel_bl rv, q⟩

/-! ### tests -/
theorem T_of (hK : X.K = c.K) (ha : PE X a (tE c Wx ea)) (he : ∀ whole, isTrue a X.env whole = (do let v ← whole; standAt a.pos; holding [v] (truthy v))) : PT X a (tT c Wx ea) :=
  PT.weak (pt_truth ha he) fun σ H Q h => by
    obtain ⟨ρ, st, env, r, re, h⟩ := h
    refine ⟨ρ, st, env, r, re, h.imp fun w st' ρ' H' _ x r' h v rv => ?_⟩
    obtain ⟨k, e, q⟩ := h
    exact ⟨k, by rw [hK]; exact truth_ok r' rv e, q⟩
/-- a value, then something by its truth -/
def byT (ea : Env → St → R W) (f : Env → W → Bool → St → R W) : Env → St → R W := fun e s => (ea e s).bind fun x s => (match truth s x with
  | some true => f e x true s
  | some false => f e x false s
  | none => .bad)
theorem E_and (hK : X.K = c.K) {rest : List Expr} (ha : PE X a (tE c Wx ea)) (hb : PE X (.BoolOp .And (b :: rest) pos) (tE c Wx eb)) : PE X (.BoolOp .And (a :: b :: rest) pos) (tE c Wx fun e s => (ea e s).bind fun x s => (match truth s x with
    | some true => eb e s
    | some false => .ok x s
    | none => .bad)) :=
  PE.weak (pe_andT ha hb) fun σ H Q h => by
    obtain ⟨ρ, st, env, r, re, h⟩ := h
    refine ⟨ρ, st, env, r, re, h.bind.imp fun w st' ρ' H' _ x r' h v rv => ?_⟩
    split at h
    · rename_i e
      exact ⟨true, by rw [hK]; exact truth_ok r' rv e, iteT ⟨ρ', st', env, r', re.ext x, h⟩⟩
    · rename_i e
      exact ⟨false, by rw [hK]; exact truth_ok r' rv e, iteF (Post.here h r' v rv)⟩
    · exact h.elim
theorem E_or (hK : X.K = c.K) {rest : List Expr} (ha : PE X a (tE c Wx ea)) (hb : PE X (.BoolOp .Or (b :: rest) pos) (tE c Wx eb)) : PE X (.BoolOp .Or (a :: b :: rest) pos) (tE c Wx fun e s => (ea e s).bind fun x s => (match truth s x with
    | some true => .ok x s
    | some false => eb e s
    | none => .bad)) :=
  PE.weak (pe_orT ha hb) fun σ H Q h => by
    obtain ⟨ρ, st, env, r, re, h⟩ := h
    refine ⟨ρ, st, env, r, re, h.bind.imp fun w st' ρ' H' _ x r' h v rv => ?_⟩
    split at h
    · rename_i e
      exact ⟨true, by rw [hK]; exact truth_ok r' rv e, iteT (Post.here h r' v rv)⟩
    · rename_i e
      exact ⟨false, by rw [hK]; exact truth_ok r' rv e, iteF ⟨ρ', st', env, r', re.ext x, h⟩⟩
    · exact h.elim
theorem PW.weak {X : Cx} {e : Expr} {t t' : TT} (h : PW X e t) (k : ∀ σ H Q, t' σ H Q → t σ H Q) : PW X e t' := ⟨fun wh pins s σ H Q I q => h.run wh pins s σ H Q I (k σ H Q q)⟩
theorem T_and {rest : List Expr} (ha : PT X a (tT c Wx ea)) (hb : PW X (.BoolOp .And (b :: rest) pos) (tT c Wx eb)) : PW X (.BoolOp .And (a :: b :: rest) pos) (tT c Wx fun e s => (ea e s).bind fun x s => (match truth s x with
    | some true => eb e s
    | some false => .ok x s
    | none => .bad)) :=
  PW.weak (pw_and ha hb) fun σ H Q h => by
    obtain ⟨ρ, st, env, r, re, h⟩ := h
    refine ⟨ρ, st, env, r, re, h.bind.imp fun w st' ρ' H' _ x r' h => ?_⟩
    split at h
    · rename_i e
      exact ⟨true, e, iteT ⟨ρ', st', env, r', re.ext x, h⟩⟩
    · rename_i e
      refine ⟨false, e, iteF ?_⟩
      obtain ⟨k, e2, q⟩ := Post.here h r'
      rw [e] at e2; cases e2
      exact q
    · exact h.elim
theorem T_or {rest : List Expr} (ha : PT X a (tT c Wx ea)) (hb : PW X (.BoolOp .Or (b :: rest) pos) (tT c Wx eb)) : PW X (.BoolOp .Or (a :: b :: rest) pos) (tT c Wx fun e s => (ea e s).bind fun x s => (match truth s x with
    | some true => .ok x s
    | some false => eb e s
    | none => .bad)) :=
  PW.weak (pw_or ha hb) fun σ H Q h => by
    obtain ⟨ρ, st, env, r, re, h⟩ := h
    refine ⟨ρ, st, env, r, re, h.bind.imp fun w st' ρ' H' _ x r' h => ?_⟩
    split at h
    · rename_i e
      refine ⟨true, e, iteT ?_⟩
      obtain ⟨k, e2, q⟩ := Post.here h r'
      rw [e] at e2; cases e2
      exact q
    · rename_i e
      exact ⟨false, e, iteF ⟨ρ', st', env, r', re.ext x, h⟩⟩
    · exact h.elim
theorem E_not (hK : X.K = c.K) (ha : PE X a (tE c Wx ea)) : PE X (.UnaryOp .Not a pos) (tE c Wx fun e s => (ea e s).bind fun x s => okB s (notB (truth s x))) :=
  PE.weak (pe_notT ha) fun σ H Q h => by
    obtain ⟨ρ, st, env, r, re, h⟩ := h
    refine ⟨ρ, st, env, r, re, h.bind.imp fun w st' ρ' H' _ x r' h v rv => ?_⟩
    cases e : truth st' w with
    | none => rw [e] at h; exact h.elim
    | some k =>
      rw [e] at h
      exact ⟨k, by rw [hK]; exact truth_ok r' rv e, Post.here h r' _ (of_bl _)⟩
theorem T_not (ha : PT X a (tT c Wx ea)) : PT X (.UnaryOp .Not a pos) (tT c Wx fun e s => (ea e s).bind fun x s => okB s (notB (truth s x))) :=
  PT.weak (pt_not ha) fun σ H Q h => by
    obtain ⟨ρ, st, env, r, re, h⟩ := h
    refine ⟨ρ, st, env, r, re, h.bind.imp fun w st' ρ' H' _ x r' h => ?_⟩
    cases e : truth st' w with
    | none => rw [e] at h; exact h.elim
    | some k =>
      rw [e] at h
      obtain ⟨k2, e2, q⟩ := Post.here h r'
      cases e2
      exact ⟨k, rfl, q⟩
theorem E_ite (hd : PT X d (tT c Wx ec)) (ha : PE X a (tE c Wx ea)) (hb : PE X b (tE c Wx eb)) : PE X (.IfExp d a b pos) (tE c Wx fun e s => (ec e s).bind fun x s => (match truth s x with
    | some true => ea e s
    | some false => eb e s
    | none => .bad)) :=
  PE.weak (pe_ifExp hd ha hb) fun σ H Q h => by
    obtain ⟨ρ, st, env, r, re, h⟩ := h
    refine ⟨ρ, st, env, r, re, h.bind.imp fun w st' ρ' H' _ x r' h => ?_⟩
    split at h
    · rename_i e
      exact ⟨true, e, iteT ⟨ρ', st', env, r', re.ext x, h⟩⟩
    · rename_i e
      exact ⟨false, e, iteF ⟨ρ', st', env, r', re.ext x, h⟩⟩
    · exact h.elim
theorem pt_ifExp {tc ta tb : TT} (hd : PT X d tc) (ha : PT X a ta) (hb : PT X b tb) : PT X (.IfExp d a b pos) (fun σ H Q => tc σ H fun k H1 => if k = true then ta σ H1 Q else tb σ H1 Q) := by
  refine ⟨fun pins s σ H Q I h => ?_⟩
  refine isTrue_IfExp (thn (hd.run pins s σ H _ I h) fun k s1 ⟨H1, I1, q1⟩ => ?_)
  cases k with
  | true => exact ha.run pins s1 σ H1 Q I1 q1
  | false => exact hb.run pins s1 σ H1 Q I1 q1
theorem T_ite (hd : PT X d (tT c Wx ec)) (ha : PT X a (tT c Wx ea)) (hb : PT X b (tT c Wx eb)) : PT X (.IfExp d a b pos) (tT c Wx fun e s => (ec e s).bind fun x s => (match truth s x with
    | some true => ea e s
    | some false => eb e s
    | none => .bad)) :=
  PT.weak (pt_ifExp hd ha hb) fun σ H Q h => by
    obtain ⟨ρ, st, env, r, re, h⟩ := h
    refine ⟨ρ, st, env, r, re, h.bind.imp fun w st' ρ' H' _ x r' h => ?_⟩
    split at h
    · rename_i e
      exact ⟨true, e, iteT ⟨ρ', st', env, r', re.ext x, h⟩⟩
    · rename_i e
      exact ⟨false, e, iteF ⟨ρ', st', env, r', re.ext x, h⟩⟩
    · exact h.elim
theorem E_neg (ha : PE X a (tE c Wx ea)) : PE X (.UnaryOp .USub a pos) (tE c Wx fun e s => (ea e s).bind fun x s => (match x with
    | .int i => .ok (.int (-i)) s
    | _ => .bad)) :=
  PE.weak (pe_un un_neg ha) fun σ H Q h => by
    obtain ⟨ρ, st, env, r, re, h⟩ := h
    refine ⟨ρ, st, env, r, re, h.bind.imp fun w st' ρ' H' _ x r' h v rv => ?_⟩
    split at h
    · cases rel_int rv
      exact ⟨_, rfl, Post.here h r' _ (of_int _)⟩
    · exact h.elim
/-- a op b op' c -/
theorem E_chain0 {r r' : R2} {f g : W → W → St → R W} {σ : L2.St} {H : Hp} {Q : VK}
    (hr : ∀ (Q : VK) x y H1, (∃ ρ st w u, Rel c ρ H1 st ∧ RelW c ρ H1 w x ∧ RelW c ρ H1 u y ∧ Post c (fun k d H' => Wx k d σ H') ρ H1 (f w u st) (QV c Q)) → r x y H1 Q)
    (hr' : ∀ x y H1, (∃ ρ st w u, Rel c ρ H1 st ∧ RelW c ρ H1 w x ∧ RelW c ρ H1 u y ∧ Post c (fun k d H' => Wx k d σ H') ρ H1 (g w u st) (QV c Q)) → r' x y H1 Q)
    (h : tE c Wx (fun e s => (ea e s).bind fun x s => (eb e s).bind fun y s => (f x y s).bind fun z s => (match z with
      | .bl true => (ec e s).bind fun w s => g y w s
      | .bl false => .ok (.bl false) s
      | _ => .bad)) σ H Q) : tChain r r' (tE c Wx ea) (tE c Wx eb) (tE c Wx ec) σ H Q := by
  obtain ⟨ρ, st, env, r1, re, h⟩ := h
  refine ⟨ρ, st, env, r1, re, h.bind.imp fun w1 st1 ρ1 H1 _ x1 r2 h v1 rv1 => ?_⟩
  refine ⟨ρ1, st1, env, r2, re.ext x1, h.bind.imp fun w2 st2 ρ2 H2 _ x2 r3 h v2 rv2 => ?_⟩
  refine hr _ v1 v2 H2 ⟨ρ2, st2, w1, w2, r3, rv1.ext x2, rv2, h.bind.imp fun z st3 ρ3 H3 _ x3 r4 h v3 rv3 => ?_⟩
  split at h
  · cases rel_bl rv3
    refine ⟨true, rfl, iteT ⟨ρ3, st3, env, r4, (re.ext (x1.trans x2)).ext x3, h.bind.imp fun w4 st4 ρ4 H4 _ x4 r5 h v4 rv4 => ?_⟩⟩
    exact hr' v2 v4 H4 ⟨ρ4, st4, w2, w4, r5, (rv2.ext x3).ext x4, rv4, h⟩
  · cases rel_bl rv3
    exact ⟨false, rfl, iteF (Post.here h r4 _ (of_bl _))⟩
  · exact h.elim
theorem last2 {o o' : CmpOp} {b d : Expr} (h : behindInMarks o' d = false) : lastMarks [o, o'] [b, d] = false := by
  show lastMarks [o'] [d] = false
  exact h
theorem E_chain [Pwx X c] (hu : X.A.units + 64 < cLine) (hK : X.K = c.K) {o o' : CmpOp} {p p' : Op2} (ho : cmpB o p = true) (ho' : cmpB o' p' = true) (ha : PE X a (tE c Wx ea)) (hb : PE X b (tE c Wx eb)) (hd : PE X d (tE c Wx ec)) (hm : behindInMarks o' d = false) :
    PE X (.Compare a [o, o'] [b, d] pos) (tE c Wx fun e s => (ea e s).bind fun x s => (eb e s).bind fun y s => (op2 p x y s).bind fun z s => (match z with
      | .bl true => (ec e s).bind fun w s => op2 p' y w s
      | .bl false => .ok (.bl false) s
      | _ => .bad)) :=
  PE.weak (pe_chain (op2_cmp hu hK ho) (op2_cmp hu hK ho') ha hb hd (last2 hm)) fun σ H Q h => E_chain0 (fun Q => rOp_of (nox_op2 p)) (rOp_of (nox_op2 p')) h
theorem T_chain [Pwx X c] (hu : X.A.units + 64 < cLine) (hK : X.K = c.K) {o o' : CmpOp} {p p' : Op2} (ho : cmpB o p = true) (ho' : cmpB o' p' = true) (ha : PE X a (tE c Wx ea)) (hb : PE X b (tE c Wx eb)) (hd : PE X d (tE c Wx ec)) (hm : behindInMarks o' d = false) :
    PT X (.Compare a [o, o'] [b, d] pos) (tT c Wx fun e s => (ea e s).bind fun x s => (eb e s).bind fun y s => (op2 p x y s).bind fun z s => (match z with
      | .bl true => (ec e s).bind fun w s => op2 p' y w s
      | .bl false => .ok (.bl false) s
      | _ => .bad)) := by
  refine PT.weak (pt_chain (op2_cmp hu hK ho) (op2_cmp hu hK ho') ha hb hd (last2 hm)) fun σ H Q h => ?_
  refine E_chain0 (r := rOp c fun x y s => op2 p x y s) (r' := rOp c fun x y s => op2 p' x y s) (Q := fun x H' => ∃ k, x = .bl k ∧ Q k H') (fun Q => rOp_of (nox_op2 p)) (rOp_of (nox_op2 p')) ?_
  obtain ⟨ρ, st, env, r1, re, h⟩ := h
  refine ⟨ρ, st, env, r1, re, h.imp fun w st' ρ' H' e x r h v rv => ?_⟩
  obtain ⟨k, hk, q⟩ := h
  have e2 : GivesB ((ea env st).bind fun x s => (eb env s).bind fun y s => (op2 p x y s).bind fun z s => (match z with
      | .bl true => (ec env s).bind fun w s => op2 p' y w s
      | .bl false => .ok (.bl false) s
      | _ => .bad)) := by
    cases ea env st with
    | bad => intro _ _ e; cases e
    | exc _ _ _ => intro _ _ e; cases e
    | ok w1 s1 =>
      simp only [R.bind_ok]
      cases eb env s1 with
      | bad => intro _ _ e; cases e
      | exc _ _ _ => intro _ _ e; cases e
      | ok w2 s2 =>
        simp only [R.bind_ok]
        cases op2 p w1 w2 s2 with
        | bad => intro _ _ e; cases e
        | exc _ _ _ => intro _ _ e; cases e
        | ok w3 s3 =>
          simp only [R.bind_ok]
          split
          · cases ec env s3 with
            | bad => intro _ _ e; cases e
            | exc _ _ _ => intro _ _ e; cases e
            | ok w4 s4 => exact cmp_bool ho' w2 w4 s4
          · intro _ _ e; cases e; exact ⟨_, rfl⟩
          · intro _ _ e; cases e
  obtain ⟨b2, rfl⟩ := e2 _ _ e
  cases hk
  exact ⟨_, rel_bl rv, q⟩
end
end Px

set_option linter.all false
set_option maxRecDepth 100000
/-! PxQ: dicts whose keys are tuples: laid, written, walked. -/
namespace Px
open PySem PySem.Spec PyProof.Rows L2

/-! ### one write, the epoch told -/
section
variable {prog : Program} {w : World} {A : Around} {E : Value → Shared → Prop} {K : Type} [DecidableEq K] {knd : HeapKind prog w K}
/-- the raw dict at d: its entries, its epoch -/
def RawD (knd : HeapKind prog w K) (h : Heap) (d : Addr) (xs : List (K × Addr × Value)) (ep : Nat) : Prop := ∃ o es, h.get? d = some o ∧ o.ExactDict ∧ o.data = .dict es ep ∧ es.toList = xs.map (entryOfKey knd)
theorem RawD.mk' {h : Heap} {d : Addr} {xs : List (K × Addr × Value)} {ep : Nat} {o : Obj} {es : Array DictEntry} (h1 : h.get? d = some o) (h2 : o.ExactDict) (h3 : o.data = .dict es ep) (h4 : es.toList = xs.map (entryOfKey knd)) : RawD knd h d xs ep := ⟨o, es, h1, h2, h3, h4⟩
theorem RawD.of {h : Heap} {d : Addr} {xs : List (K × Addr × Value)} {ep : Nat} (r : RawD knd h d xs ep) (his : ∀ x ∈ xs, knd.is h x.1 x.2.1) (hn : (xs.map (·.1)).Nodup) : h.DictOfH knd d xs := by
  obtain ⟨o, es, h1, h2, h3, h4⟩ := r
  exact ⟨o, es, ep, h1, h2, h3, h4, his, hn⟩
theorem stored_len {xs : List (K × Addr × Value)} {k : K} {a : Addr} {v : Value} : (storedH xs k a v).length = if (atKey xs k).isSome then xs.length else xs.length + 1 := by
  cases h : atKey xs k with
  | none => rw [storedH_new h]; simp
  | some p => rw [storedH_old h]; simp
theorem set_raw {s : Shared} {d a : Addr} {xs : List (K × Addr × Value)} {k : K} {v : Value} {Q : Unit → Shared → Prop} (hu : knd.room A) (hkey : knd.is s.heap k a) (hm : RawD knd s.heap d xs xs.length)
    (his : ∀ x ∈ xs, knd.is s.heap x.1 x.2.1) (hn : (xs.map (·.1)).Nodup) (hz : xs.length ≤ sizeLine)
    (hQ : ∀ h', RawD knd h' d (storedH xs k a v) (storedH xs k a v).length → Heap.SameBut d s.heap h' → Q () { s with heap := h', toks := s.toks + knd.draws k }) : wpAny (model prog w) A (dictSet d (.ref a) v) Q E s := by
  obtain ⟨o, es, ho, hc, hd, he⟩ := hm
  have hsz : es.size = xs.length := size_of_entries he
  unfold dictSet
  try with_reducible refine wpAny_holding ?_
  refine wpAny_bind (knd.pyHash hu hkey ?_)
  unfold dictSetHashed
  try with_reducible refine wpAny_holding ?_
  refine wpAny_bind (wpAny_dictFind_heap (s := { s with toks := s.toks + knd.draws k }) hu hkey ho hd he his hn (fun hno => ?_) fun j p hj => ?_)
  · have hk := atKey_none_of_get hno
    have e1 := storedH_new hk a v
    have e2 : (storedH xs k a v).length = xs.length + 1 := by rw [e1]; simp
    refine wpAny_bind (wpAny_rule (wpAny_updateDictKeys (hz := by omega) (s := { s with toks := s.toks + knd.draws k }) ho hd (hQ _ (RawD.mk' (es := es.push { hash := knd.hash k, key := .ref a, val := v }) (Heap.get?_update_self _ ho (Obj.isFreed_of_dict (Obj.data_mapDictKeys hd _))) (hc.mapDictKeys _) ?_ ?_) (Heap.SameBut.update ..))))
    · rw [e2]; exact Obj.data_mapDictKeys hd _
    · rw [e1]
      simp [he, entryOfKey]
  · have hk := atKey_of_get hn hj
    have e1 := storedH_old hk a v
    have e2 : (storedH xs k a v).length = xs.length := by rw [e1]; simp
    refine wpAny_bind (wpAny_rule (wpAny_bind (wpAny_updateDict (s := { s with toks := s.toks + knd.draws k }) ho hd (wpAny_point (hQ _ (RawD.mk' (es := es.modify j fun e : DictEntry => { e with val := v }) (Heap.get?_update_self _ ho (Obj.isFreed_of_dict (Obj.data_mapDict hd _))) (hc.mapDict _) ?_ ?_) (Heap.SameBut.update ..))))))
    · rw [e2]; exact Obj.data_mapDict hd _
    · rw [e1]
      have t := modify_map_putAt (entryOfKey knd) (fun e : DictEntry => { e with val := v }) k v (fun _ _ => rfl) hn hj
      rw [← he] at t
      obtain ⟨l⟩ := es
      simpa using t
theorem setItem_raw {s : Shared} {d a : Addr} {xs : List (K × Addr × Value)} {k : K} {v : Value} {Q : Unit → Shared → Prop} (hu : knd.room A.in1) (hkey : knd.is s.heap k a) (hm : RawD knd s.heap d xs xs.length)
    (his : ∀ x ∈ xs, knd.is s.heap x.1 x.2.1) (hn : (xs.map (·.1)).Nodup) (hz : xs.length ≤ sizeLine)
    (hQ : ∀ h', RawD knd h' d (storedH xs k a v) (storedH xs k a v).length → Heap.SameBut d s.heap h' → Q () { s with heap := h', toks := s.toks + knd.draws k }) : wpAny (model prog w) A (setItem (.ref d) (.ref a) v) Q E s := by
  have hT := (hm.of his hn).typeIs
  unfold setItem
  try with_reducible refine wpAny_holding ?_
  refine wpAny_bind (wpAny_sequenceKey hT (by decide) ?_)
  refine wpAny_bind (wpAny_callSpecial?_slot (name := Str.ofString "__setitem__") hT PySem.F.slot_dict_setitem (wpAny_call_entry PySem.F.slot_dict_setitem hT PySem.F.entry_dict_setitem ?_ (PySem.F.args_dict_setitem_3 _ _ _)))
  show wpAny _ _ (Builtin.Dict.notOrdered "__setitem__" ⟨[.ref d, .ref a, v], []⟩ >>= _) _ _ s
  refine wpAny_bind (wpAny_notOrdered_dict hT ?_)
  show wpAny _ _ (dictSet d (.ref a) v >>= _) _ _ s
  exact wpAny_bind (set_raw hu hkey hm his hn hz fun h' hm' hs' => wpAny_pure ⟨.none, rfl, wpAny_pure (hQ h' hm' hs')⟩)
end

section
variable {c : Cfg} {X : Cx} [Pwx X c] {pins : List (Addr × Obj)} {σ : L2.St} {H : Hp} {s : Shared} {a b : Addr} {xs : List (List L2.Key × Addr × Value)} {k : List L2.Key}
theorem dtq_raw (I : Inv X pins σ H s) (e : H a = some (dtq c a xs)) : RawD (tupleKind (mixKind X.prog X.w)) s.heap a xs xs.length := by
  have h := (show ObjOk X.prog X.w H s.heap a (dtq c a xs) from I.hok a _ e).1
  rw [← Pwx.p (X := X) (c := c), ← Pwx.w (X := X) (c := c)] at h
  exact h
theorem dtq_new {h : Heap} {H : Hp} (r : RawD (tupleKind (mixKind X.prog X.w)) h a xs xs.length) : ObjOk X.prog X.w H h a (dtq c a xs) := by
  have r' := r
  rw [Pwx.p (X := X) (c := c), Pwx.w (X := X) (c := c)] at r'
  obtain ⟨o, es, e1, e⟩ := r
  exact ⟨r', ⟨o, e1⟩, fun h1 h2 ⟨o, es, e1, e⟩ k => ⟨o, es, k o e1, e⟩⟩
/-- d[k] = v -/
theorem d_setQ {A : Around} {E : Value → Shared → Prop} {u : Value} {Q : Unit → Shared → Prop} (hu : A.units + 1 < cLine) (hK : X.K = c.K) (I : Inv X pins σ H s) (d : DtIn c H a xs) (t : SqT c.K H b (k.map kV))
    (h : ∀ s', Inv X pins σ (upd H a (dtq c a (storedH xs k b u))) s' → Q () s') : wpAny (model X.prog X.w) A (setItem (.ref a) (.ref b) u) Q E s := by
  have dd := d.dict hK I
  have hz : xs.length ≤ sizeLine := by rw [sizeLine_eq]; have : xs.length ≤ 16777216 := d.hz; omega
  refine setItem_raw (tupleKind_room_in1 hu) (key_at hK I t) (dtq_raw I d.e) (fun x hx => key_at hK I (d.ks x hx)) d.nd hz fun h' r hs => h _ ?_
  exact d_write I (by rw [d.e]; exact True.intro) hs (let ⟨o, _, e, _⟩ := r; ⟨o, e⟩) (dtq_new r)
/-- {} -/
theorem pe_dnewQ {pos : Pos} : PE X (.Dict [] [] pos) (fun σ H Q => ∀ p, H p = none → (p == sysModules) = false → Q (.ref p) (upd H p (dtq c p []))) := ⟨fun pins s σ H Q I h =>
  wpAny_Dict_empty ⟨.ref s.heap.objs.size, _, I.laid (a := s.heap.objs.size) (o := dtq c s.heap.objs.size []) (t' := s.toks) (fun _ _ q => Heap.get?_push_of_some _ q) (Nat.le_refl _) (dtq_new ⟨_, _, Heap.get?_push_size _ rfl, by first | exact ⟨rfl, rfl⟩ | trivial, rfl, rfl⟩), rfl,
    h _ (I.hok.fresh (Nat.le_refl _)) (beq_eq_false_iff_ne.mpr (Nat.ne_of_gt I.big))⟩⟩
end

theorem putD_len (l : List (W × W)) (k v : W) : (putD l k v).length ≤ l.length + 1 := by
  unfold putD
  split
  · rw [List.length_map]; omega
  · rw [List.length_append]; exact Nat.le_refl _
theorem stored_nd {K : Type} [DecidableEq K] {xs : List (K × Addr × Value)} {k : K} {b : Addr} {u : Value} (hn : (xs.map (·.1)).Nodup) : ((storedH xs k b u).map (·.1)).Nodup := by
  cases h : atKey xs k with
  | none =>
    rw [storedH_new h, List.map_append, List.nodup_append]
    refine ⟨hn, by simp, ?_⟩
    intro x hx y hy
    simp only [List.map_cons, List.map_nil, List.mem_singleton] at hy
    subst hy
    intro e
    subst e
    obtain ⟨z, hz, e⟩ := List.mem_map.mp hx
    unfold atKey at h
    rw [Option.map_eq_none_iff, List.find?_eq_none] at h
    exact h z hz (by simp [e])
  | some p =>
    rw [storedH_old h, keys_map_putAt]; exact hn
/-! ### walked -/
/-- the keys of the dict at d: values may be put, keys not -/
def Itq (c : Cfg) (d : Addr) (n : Nat) : L2.It :=
  ⟨fun i H => (∃ xs, H d = some (dtq c d xs) ∧ xs.length = n) ∧ i < n, fun i H x H' => H' = H ∧ ∀ xs, H d = some (dtq c d xs) → ∃ q, xs[i]? = some q ∧ x = .ref q.2.1, fun i H => (∃ xs, H d = some (dtq c d xs) ∧ xs.length = n) ∧ n ≤ i⟩
theorem turn_q {c : Cfg} {P : Program} {w : World} {K : PySem.W.Frag} {tg : Expr} {d : Addr} {n : Nat} (it : Addr) (hP : P = c.P) (hw : w = c.w) : Turn P w K tg (Itq c d n) [it] it (fun i h => h.IsKeyIter it d i n n) where
  mem := by simp
  obj := fun i h st b hb => by
    have e : b = it := by simpa using hb
    subst e
    obtain ⟨oi, e, c, dd⟩ := st
    exact ⟨oi, e, fun v z => by rw [dd] at z; cases z⟩
  keep := fun i h h' st k => st.at fun oi e => k it (by simp) oi e
  item := by
    intro X hP' hw' hK hc i pins s σ H E I hf st hg
    subst hP' hw' hK
    haveI : Pwx X c := ⟨hP, hw⟩
    obtain ⟨⟨xs, hd, hl⟩, hi⟩ := hg
    obtain ⟨f0, f1, f2, f3, f4, f5⟩ := hf it (by simp)
    obtain ⟨o, es, ho, hx, hdt, he⟩ := dtq_raw I hd
    have hsz : es.size = n := by rw [← hl]; exact size_of_entries he
    obtain ⟨q, hq⟩ : ∃ q, xs[i]? = some q := ⟨xs[i]'(by omega), List.getElem?_eq_getElem _⟩
    have hen : es[i]? = some (entryOfKey (tupleKind (mixKind X.prog X.w)) q) := by rw [entry_at he i, hq]; rfl
    rw [← hl] at st
    refine next_key_item st ho hdt (by rw [hsz, hl]) hen fun h' st' sb => ?_
    have I1 : Inv X pins σ H { s with heap := h' } := I.turned (t' := s.toks) (fun b ob hb e => (sb.2 b hb).trans e) f0 f1 f3 f4 f5
    obtain ⟨oi, e, c', dd⟩ := id st'
    refine ⟨.ref q.2.1, rfl, go_of (s := { s with heap := h' }) e c' dd (by decide) ⟨.ref q.2.1, H, I1, rfl, ⟨rfl, fun ys hy => ?_⟩, ?_, fun b hb => (hf b hb).1⟩⟩
    · obtain ⟨o2, es2, ho2, _, hdt2, he2⟩ := dtq_raw I hy
      rw [ho] at ho2; cases ho2
      rw [hdt] at hdt2
      injection hdt2 with e1 e2
      subst e1
      have hz := entry_at he2 i
      rw [hen] at hz
      cases hb : ys[i]? with
      | none => rw [hb] at hz; exact nomatch (show some _ = none from hz)
      | some q2 =>
        rw [hb] at hz
        have z := Option.some.inj hz
        have z2 : Value.ref q.2.1 = Value.ref q2.2.1 := congrArg DictEntry.key z
        exact ⟨q2, rfl, congrArg V.ref (by injection z2)⟩
    · show h'.IsKeyIter it d (i + 1) n n
      rw [← hl]
      exact st'
  done := by
    intro X hP' hw' hK hc i pins s σ H E I hf st hg
    subst hP' hw' hK
    haveI : Pwx X c := ⟨hP, hw⟩
    obtain ⟨⟨xs, hd, hl⟩, hi⟩ := hg
    obtain ⟨f0, f1, f2, f3, f4, f5⟩ := hf it (by simp)
    obtain ⟨o, es, ho, hx, hdt, he⟩ := dtq_raw I hd
    have hsz : es.size = n := by rw [← hl]; exact size_of_entries he
    rw [hl] at hdt
    exact next_key_end (I.ok.hd hc) st ho hdt hsz hi fun h' eb => ⟨rfl, I.turned (t' := s.toks) (fun b ob hb e => eb b ob hb e) f0 f1 f3 f4 f5⟩
  self := fun A i s Q E st h => wpAny_pyIter_keyiter st h
theorem pi_dtq {c : Cfg} {X : Cx} [Pwx X c] {tg e : Expr} {td : TE} (he : PE X e td) : PI X tg e (fun σ H R => td σ H fun x H1 => ∃ d xs, x = .ref d ∧ (d == sysModules) = false ∧ H1 d = some (dtq c d xs) ∧ R (Itq c d xs.length) H1) := by
  refine ⟨fun pins s σ H R I h => ?_⟩
  refine thn (he.run pins s σ H _ I h) fun u s1 ⟨x, H1, I1, rx, d, xs, ex, hs, hd, q⟩ => ?_
  subst ex
  obtain rfl : u = Value.ref d := rx
  obtain ⟨o, es, ho, hx, hdt, hes⟩ := dtq_raw I1 hd
  refine iter_keys hs ho hx hdt (pi_one (tk := s1.toks) I1 _ (turn_q _ (Pwx.p (X := X)) (Pwx.w (X := X))) ⟨_, Heap.get?_push_size _ rfl, rfl, ?_⟩ q)
  rw [size_of_entries hes] <;> rfl
end Px

set_option linter.all false
set_option maxRecDepth 100000
/-! Px6: displays, places, calls, comprehensions. -/
namespace Px
open PySem PySem.Spec PyProof.Rows L2

theorem star_cons {env : PySem.Env} {e : Expr} {es : List Expr} (h : notStar e = true) : starEach (e :: es) env = (false, eval e env) :: starEach es env := by
  cases e <;> first | rfl | cases h
theorem star_plain {env : PySem.Env} {pos : Pos} {f : Expr → E → Bool} : ∀ {es : List Expr} {cs : Es}, esB f es cs = true → (backTo pos (starEach es env)).any (·.1) = false
  | [], .nil, _ => rfl
  | e :: es, .cons c cs, h => by
    simp only [esB, Bool.and_eq_true] at h
    have ih := star_plain (env := env) (pos := pos) h.2
    rw [star_cons h.1.1]
    show (false || (backTo pos (starEach es env)).any (·.1)) = false
    rw [ih]; rfl
  | [], .cons _ _, h => by cases h
  | _ :: _, .nil, h => by cases h

section
variable {X : Cx} {c : Cfg} {Wx : WX} {ea eb ec : Env → St → R W} {er : Env → St → R (List W)} {a b d : Expr} {es : List Expr} {pos : Pos}
theorem A_nil : PA X [] (tEs c Wx fun _ s => .ok [] s) := PA.weak pa_nil fun σ H Q h => by
  obtain ⟨ρ, st, env, r, re, h⟩ := h
  exact Post.here h r _ RelL.nil
theorem A_cons (hs : notStar a = true) (ha : PE X a (tE c Wx ea)) (hr : PA X es (tEs c Wx er)) : PA X (a :: es) (tEs c Wx fun e s => (ea e s).bind fun w s => (er e s).bind fun ws s => .ok (w :: ws) s) :=
  PA.weak (pa_cons ha hr (star_cons hs)) fun σ H Q h => by
    obtain ⟨ρ, st, env, r, re, h⟩ := h
    refine ⟨ρ, st, env, r, re, h.bind.imp fun w1 st1 ρ1 H1 _ x1 r1 h v1 rv1 => ?_⟩
    refine ⟨ρ1, st1, env, r1, re.ext x1, h.bind.imp fun w2 st2 ρ2 H2 _ x2 r2 h v2 rv2 => ?_⟩
    exact Post.here h r2 _ (RelL.cons (rv1.ext x2) rv2)
/-- the items are as many as are written -/
def Len (n : Nat) (er : Env → St → R (List W)) : Prop := ∀ e s ws s', er e s = .ok ws s' → ws.length = n
theorem E_tup {k : Nat} {n : Nat} (hl : Len n er) (hn : n ≤ 1000) (ha : PA X es (tEs c Wx er)) : PE X (.Tuple es k pos) (tE c Wx fun e s => (er e s).bind fun ws s => .ok (.tup ws) s) :=
  PE.weak (pe_tup ha) fun σ H Q h => by
    obtain ⟨ρ, st, env, r, re, h⟩ := h
    refine ⟨ρ, st, env, r, re, h.bind.imp fun ws st1 ρ1 H1 e x1 r1 h vs rv => ?_⟩
    refine ⟨?_, fun p hp => ?_⟩
    · rw [← rv.length, hl _ _ _ _ e, sizeLine_eq]; omega
    · exact h ρ1 _ (Ext.fresh hp) (r1.fresh hp) _ (RelW.tup_new rv hp (r1.out hp))
/-- a new list, whatever is wished -/
theorem newL_at' {E : XK} {ρ : Rho} {H : Hp} {st : St} {fz : Bool} {l : List W} {xs : List V} {Q : VK} (h : Post c E ρ H (newL fz l st) (QV c Q)) (r : Rel c ρ H st) (rs : RelL c ρ H l xs) : ∀ p, H p = none → Q (.ref p) (upd H p (.lst xs)) :=
  newL_at (h.nox (nox_newL fz l st)) r rs
theorem E_lst {fz : Bool} {n : Nat} (hl : Len n er) (hn : n ≤ 1000) (ha : PA X es (tEs c Wx er)) : PE X (.List es pos) (tE c Wx fun e s => (er e s).bind fun ws s => newL fz ws s) :=
  PE.weak (pe_lst ha) fun σ H Q h => by
    obtain ⟨ρ, st, env, r, re, h⟩ := h
    refine ⟨ρ, st, env, r, re, h.bind.imp fun ws st1 ρ1 H1 e x1 r1 h vs rv => ?_⟩
    refine ⟨?_, newL_at' h r1 rv⟩
    rw [← rv.length, hl _ _ _ _ e, sizeLine_eq]; omega
theorem plainIx {b : Expr} (h : notSlice b = true) : PlainIx b := by
  intro o i
  cases b <;> first | rfl | cases h
theorem E_ix [Pwx X c] (hu : X.A.units + 64 < cLine) (hK : X.K = c.K) (hs : notSlice b = true) (ha : PE X a (tE c Wx ea)) (hb : PE X b (tE c Wx eb)) : PE X (.Subscript a b pos) (tE c Wx fun e s => (ea e s).bind fun x s => (eb e s).bind fun y s => ixW s x y) :=
  PE.weak (pe_ix (ixW_ok hu hK) ha hb (plainIx hs)) fun σ H Q h => two (f := fun x y s => ixW s x y) (rOp_of fun x y st => nox_ixW st x y) h
/-- a slice's part -/
def tO (c : Cfg) (Wx : WX) (er : Env → St → R (List W)) : TO := fun σ H Q => ∃ ρ st env, Rel c ρ H st ∧ REnv c ρ H env σ ∧ Post c (fun k d H' => Wx k d σ H') ρ H (er env st) fun ws _ _ H' => ∃ o, part ws = some o ∧ Q o H'
theorem PO.weak {X : Cx} {e : Option Expr} {t t' : TO} (h : PO X e t) (k : ∀ σ H Q, t' σ H Q → t σ H Q) : PO X e t' := ⟨fun pins s σ H Q I q => h.run pins s σ H Q I (k σ H Q q)⟩
theorem O_none : PO X none (tO c Wx fun _ s => .ok [] s) := PO.weak po_none fun σ H Q h => by
  obtain ⟨ρ, st, env, r, re, h⟩ := h
  obtain ⟨o, e, q⟩ := Post.here h r
  cases e
  exact q
theorem O_some (ha : PE X a (tE c Wx ea)) : PO X (some a) (tO c Wx fun e s => (ea e s).bind fun w s => (R.ok [] s).bind fun ws s => .ok (w :: ws) s) := PO.weak (po_some ha) fun σ H Q h => by
  obtain ⟨ρ, st, env, r, re, h⟩ := h
  refine ⟨ρ, st, env, r, re, h.bind.imp fun w1 st1 ρ1 H1 _ x1 r1 h v1 rv1 => ?_⟩
  obtain ⟨o, e, q⟩ := Post.here h r1
  unfold part at e
  split at e
  · rename_i hh
    cases hh
  · rename_i hh
    cases hh
    cases rel_int rv1
    exact ⟨_, rfl, by cases e; exact q⟩
  · cases e
theorem E_sl {fz : Bool} {lo hi : Option Expr} {p2 : Pos} {el eh : Env → St → R (List W)} (hK : X.K = c.K) (ha : PE X a (tE c Wx ea)) (hl : PO X lo (tO c Wx el)) (hh : PO X hi (tO c Wx eh)) :
    PE X (.Subscript a (.Slice lo hi none p2) pos) (tE c Wx fun e s => (ea e s).bind fun x s => (el e s).bind fun y s => (match part y with
      | some lo' => (eh e s).bind fun z s => (match part z with
        | some hi' => slW fz s x lo' hi'
        | none => .bad)
      | none => .bad)) :=
  PE.weak (pe_slice (slW_ok (fz := fz) hK) ha hl hh) fun σ H Q h => by
    obtain ⟨ρ, st, env, r, re, h⟩ := h
    refine ⟨ρ, st, env, r, re, h.bind.imp fun w1 st1 ρ1 H1 _ x1 r1 h v1 rv1 => ?_⟩
    refine ⟨ρ1, st1, env, r1, re.ext x1, h.bind.imp fun ls st2 ρ2 H2 _ x2 r2 h => ?_⟩
    split at h
    · rename_i lo' e1
      refine ⟨lo', e1, ρ2, st2, env, r2, (re.ext x1).ext x2, h.bind.imp fun hs st3 ρ3 H3 _ x3 r3 h => ?_⟩
      split at h
      · rename_i hi' e2
        exact ⟨hi', e2, ρ3, st3, w1, r3, (rv1.ext x2).ext x3, h.nox (nox_slW fz st3 w1 lo' hi')⟩
      · exact h.elim
    · exact h.elim
/-! ### built-ins -/
theorem biN_plain (b : Bi) : biN b ≠ "__name__" ∧ (biN b == ("__debug__" : Str)) = false := by cases b <;> decide +kernel
theorem biN_boot (b : Bi) : bootBuiltins (biN b) = some (biV b) := by cases b <;> decide +kernel
theorem E_bi [Pwx X c] {fz : Bool} {bi : Bi} {p : Pos} (hca : X.calm = true) (hu : X.A.units + 64 < cLine) (hK : X.K = c.K) (hg : Gl X (biN bi)) (hm : X.mg (biN bi) = none) (hs : notStar a = true) (hpl : (backTo pos (starEach es X.env)).any (·.1) = false) (ha : PA X (a :: es) (tEs c Wx er)) :
    PE X (.Call (.Name (biN bi) p) (a :: es) [] pos) (tE c Wx fun e s => (er e s).bind fun ws s => biW fz bi ws s) := by
  have base : PE X (.Call (.Name (biN bi) p) (a :: es) [] pos) (tCB (rBi c (biW fz bi)) (tEs c Wx er)) := by
    have hc := biW_ok (X := X) (c := c) hca hu hK (fz := fz) bi
    have hb := biN_boot bi
    have hn := biN_plain bi
    revert hc hb
    generalize biV bi = z
    intro hc hb
    cases bi <;> (have e := Option.some.inj (hb.symm.trans (biN_boot _)); subst e; first | exact pe_callB hc hg hm hb ha hn.1 hn.2 (star_cons hs) hpl | exact pe_callTy hc hg hm hb ha hn.1 hn.2 (star_cons hs) hpl)
  refine PE.weak base fun σ H Q h => ?_
  obtain ⟨ρ, st, env, r, re, h⟩ := h
  refine ⟨ρ, st, env, r, re, h.bind.imp fun ws st1 ρ1 H1 e x1 r1 h vs rv => ?_⟩
  exact ⟨ρ1, st1, ws, r1, rv, h.nox (nox_biW fz bi ws st1)⟩

/-! ### methods of texts and lists -/
def rcT : Rc → String
  | .str => "str"
  | .lst => "list"
theorem recv_ty {ρ : Rho} {H : Hp} {st : St} {w : W} {x : V} {k : Rc} (r : Rel c ρ H st) (r1 : RelW c ρ H w x) (h : recv st w = some k) : tyV c.K (rcT k) x H := by
  unfold recv at h
  split at h
  · cases h; cases relS_eq r1; rfl
  · split at h
    · rename_i n l e
      cases h
      simp only [RelW] at r1
      obtain ⟨a, e1, rfl⟩ := r1
      obtain ⟨a', e2, xs, e3, rs⟩ := r.at_n e
      rw [e1] at e2; cases e2
      exact .inl ⟨rfl, xs, .inl (.inl e3)⟩
    · cases h
  · cases h
    simp only [RelW] at r1
    obtain ⟨a, xs, rfl, t, rs⟩ := r1
    exact .inl ⟨rfl, xs, t.sq⟩
  · cases h
/-- a list is made longer, by whatever list -/
def rExt2 (K : PySem.W.Frag) : V → List V → Hp → VK → Prop := fun x vs H Q => ∃ l b xs zs, x = .ref l ∧ vs = [.ref b] ∧ H l = some (.lst xs) ∧ SqL K H b zs ∧ xs.length + zs.length ≤ sizeLine ∧ Q .non (upd H l (.lst (xs ++ zs)))
theorem extL (l : Addr) (us : Array Value) (n : Nat) (b : Addr) (ws : Array Value) (m : Nat) (q : Array (Option Value)) (h0 : ¬(!us.isEmpty && Builtin.List.listTooLong (us.size + ws.size)) = true) (h1 : us.size ≤ sizeLine) (h2 : us.size + ws.size ≤ sizeLine + 1) :
    Meets (Builtin.«list.extend» ⟨[.ref l, .ref b], []⟩) (fun _ R s => s.heap.get? l = some { cls := .type "list", dict := none, data := .seq us n, slots := #[] } ∧ s.heap.get? b = some ⟨.type "list", none, .seq ws m, q⟩ ∧ R (.ok (.ret Value.none)) { s with heap := s.heap.update l (Obj.mapSeq fun x => x ++ ws), toks := s.toks }) :=
  .of_wp fun prog w A R s h => by
    obtain ⟨hp, g, d, tk, os⟩ := s
    obtain ⟨hl, hb, h⟩ := h
    have f1 := AutoSeq1.idx_int
    have f2 := AutoSeq1.sub_tuple_tuple
    have f3 := AutoSeq1.sub_list_list
    have f4 := AutoSeq1.sub_tuple_list
    have f5 := AutoSeq1.sub_list_tuple
    have hz' : (us ++ ws).size ≤ sizeLine + 1 := by rw [Array.size_append]; exact h2
    wp_walk using (wpAny_updateSeq hl rfl (hz := h1) (_hz' := hz')), AutoSeq1.wpAny_loadPart' hl, AutoSeq1.wpAny_loadPart' hb
    exact ⟨_, rfl, h⟩
theorem mt_extend2 : MtM X "list.extend" (rExt2 X.K) := by
  intro pins s σ H x vs v us Q I rx rv h
  obtain ⟨l, b, xs, zs, rfl, rfl, hH, hB, hz, q⟩ := h
  cases rx
  obtain ⟨u, rfl, ru⟩ := rv.one
  cases ru
  obtain ⟨z, its, n, r, hl, e⟩ := I.lstM hH
  obtain ⟨js, r2, ⟨⟨c2, d2, t2, sl⟩, m, e2, q4, q5, q6⟩, z2⟩ := I.list hB
  dsimp only at q4 q5 q6
  subst q4 q5 q6
  have hl2 := r2.length
  have hsz : its.toArray.size + js.toArray.size ≤ sizeLine := by rw [List.size_toArray, List.size_toArray]; omega
  have hlong : ¬ (!its.toArray.isEmpty && Builtin.List.listTooLong (its.toArray.size + js.toArray.size)) = true := by
    rw [notLongL hsz, Bool.and_false]
    exact Bool.false_ne_true
  refine call_meets F.slot_list_extend ⟨_, e, rfl⟩ F.entry_list_extend (F.args_list_extend_2 _ _) (extL l its.toArray n b js.toArray m sl hlong (by rw [List.size_toArray]; omega) (by omega)) ⟨e, e2, ?_⟩
  refine ⟨.non, _, I.lset (its' := its ++ js) hH e (by simp) (r.append r2) ?_, rfl, q⟩
  rw [List.length_append]
  omega
/-- what is asked of a method -/
def rMe (c : Cfg) (f : St → W → List W → R W) : V → List V → Hp → VK → Prop := fun x xs H Q => ∃ ρ st w ws, Rel c ρ H st ∧ RelW c ρ H w x ∧ RelL c ρ H ws xs ∧ Post c (fun _ _ _ => False) ρ H (f st w ws) (QV c Q)
theorem ref_at {ρ : Rho} {H : Hp} {st : St} {n : Nat} {x : V} {l : List W} (r : Rel c ρ H st) (r1 : RelW c ρ H (.ref n) x) (e : st[n]? = some (.lst l)) : ∃ a xs, x = .ref a ∧ ρ.l[n]? = some a ∧ H a = some (.lst xs) ∧ RelL c ρ H l xs := by
  simp only [RelW] at r1
  obtain ⟨a, e1, rfl⟩ := r1
  obtain ⟨a', e2, xs, e3, rs⟩ := r.at_n e
  rw [e1] at e2; cases e2
  exact ⟨a, xs, rfl, e1, e3, rs⟩
theorem write_at {ρ : Rho} {H : Hp} {st : St} {n : Nat} {a : Addr} {l : List W} {xs : List V} (r : Rel c ρ H st) (e1 : ρ.l[n]? = some a) (rs : RelL c ρ H l xs) : Ext ρ H ρ (upd H a (.lst xs)) ∧ Rel c ρ (upd H a (.lst xs)) (st.set n (.lst l)) :=
  ⟨Ext.write e1, r.write e1 ⟨xs, upd_same, rs.ext (Ext.write e1)⟩⟩
theorem RelL.dropLast {ρ : Rho} {H : Hp} {l : List W} {xs : List V} (h : RelL c ρ H l xs) : RelL c ρ H l.dropLast xs.dropLast := by
  rw [List.dropLast_eq_take, List.dropLast_eq_take, h.length]
  exact h.take _
theorem meAppend_ok : MtM X "list.append" (rMe c mAppend) := by
  intro pins s σ H x vs v us Q I rx rv h
  obtain ⟨ρ, st, w, ws, r, r1, rs, h⟩ := h
  unfold mAppend at h
  split at h
  · obtain ⟨y, rfl, r2⟩ := relL_one rs
    split at h
    · rename_i e
      obtain ⟨a, xs, rfl, e1, e3, rl⟩ := ref_at r r1 e
      split at h
      · rename_i hl
        obtain ⟨x1, x2⟩ := write_at r e1 (rl.append (RelL.cons r2 RelL.nil))
        exact mt_append pins s σ H _ _ v us Q I rx rv ⟨a, xs, y, rfl, rfl, e3, by rw [← rl.length, sizeLine_eq]; exact hl, h ρ _ x1 x2 .non of_non⟩
      · exact h.elim
    · exact h.elim
  · exact h.elim
theorem meExtend_ok (hK : X.K = c.K) : MtM X "list.extend" (rMe c mExtend) := by
  intro pins s σ H x vs v us Q I rx rv h
  obtain ⟨ρ, st, w, ws, r, r1, rs, h⟩ := h
  unfold mExtend at h
  split at h
  · obtain ⟨y, rfl, r2⟩ := relL_one rs
    split at h
    · rename_i l l2 e e2
      obtain ⟨a, xs, rfl, e1, e3, rl⟩ := ref_at r r1 e
      obtain ⟨b, zs, rfl, rl2, hq⟩ := lstOf_ok0 r r2 e2
      split at h
      · rename_i hl
        obtain ⟨x1, x2⟩ := write_at r e1 (rl.append rl2)
        exact mt_extend2 pins s σ H _ _ v us Q I rx rv ⟨a, b, xs, zs, rfl, rfl, e3, by rw [hK]; exact hq, by rw [← rl.length, ← rl2.length, sizeLine_eq]; exact hl, h ρ _ x1 x2 .non of_non⟩
      · exact h.elim
    · exact h.elim
  · exact h.elim
theorem mePop_ok : MtM X "list.pop" (rMe c mPop) := by
  intro pins s σ H x vs v us Q I rx rv h
  obtain ⟨ρ, st, w, ws, r, r1, rs, h⟩ := h
  unfold mPop at h
  split at h
  · have hv : vs = [] := by simpa only [RelL] using rs
    subst hv
    split at h
    · rename_i e
      obtain ⟨a, xs, rfl, e1, e3, rl⟩ := ref_at r r1 e
      split at h
      · rename_i y ey
        obtain ⟨u, k1, k2⟩ := rl.get ey
        obtain ⟨x1, x2⟩ := write_at r e1 rl.dropLast
        refine mt_pop pins s σ H _ _ v us Q I rx rv ⟨a, xs, u, rfl, rfl, e3, by rw [← rl.length]; exact k1, h ρ _ x1 x2 u (k2.ext x1)⟩
      · exact h.elim
    · exact h.elim
  · obtain ⟨y, rfl, r2⟩ := relL_one rs
    cases rel_int r2
    split at h
    · rename_i z l e
      obtain ⟨a, xs, rfl, e1, e3, rl⟩ := ref_at r r1 e
      simp only [RelL] at rl
      obtain ⟨u, us', rfl, k1, k2⟩ := rl
      obtain ⟨x1, x2⟩ := write_at r e1 k2
      exact mt_popAt pins s σ H _ _ v us Q I rx rv ⟨a, u :: us', 0, 0, u, rfl, rfl, e3, by decide, by decide, by simp [seqIndex?], rfl, h ρ _ x1 x2 u (k1.ext x1)⟩
    · exact h.elim
  · exact h.elim
theorem meClear_ok : MtM X "list.clear" (rMe c mClear) := by
  intro pins s σ H x vs v us Q I rx rv h
  obtain ⟨ρ, st, w, ws, r, r1, rs, h⟩ := h
  unfold mClear at h
  split at h
  · have hv : vs = [] := by simpa only [RelL] using rs
    subst hv
    split at h
    · rename_i e
      obtain ⟨a, xs, rfl, e1, e3, rl⟩ := ref_at r r1 e
      obtain ⟨x1, x2⟩ := write_at r e1 (RelL.nil (c := c) (ρ := ρ) (H := H))
      exact mt_clear pins s σ H _ _ v us Q I rx rv ⟨a, xs, rfl, rfl, e3, h ρ _ x1 x2 .non of_non⟩
    · exact h.elim
  · exact h.elim
theorem rel_strs {ρ : Rho} {H : Hp} : ∀ l : List Str, RelL c ρ H (l.map fun x => .str (uS x)) (l.map V.str)
  | [] => RelL.nil
  | x :: r => by
    rw [List.map_cons, List.map_cons]
    refine RelL.cons ?_ (rel_strs r)
    simp only [RelW, uS, sS_of]
theorem len_ne {l : List Nat} (h : l.isEmpty = false) : (l.length == 0) = false := by
  cases l with
  | nil => cases h
  | cons _ _ => rfl
theorem meSplit_ok {fz : Bool} : MtR X "str.split" (rMe c (mSplit fz)) := by
  intro pins s σ H x vs v us Q I rx rv h
  obtain ⟨ρ, st, w, ws, r, r1, rs, h⟩ := h
  unfold mSplit at h
  split at h
  · obtain ⟨y, rfl, r2⟩ := relL_one rs
    cases relS_eq r1; cases relS_eq r2
    split at h
    · rename_i a b hl
      refine mt_split pins s σ H _ _ v us Q I rx rv ⟨_, _, rfl, rfl, ?_, by rw [sS_len, sizeLine_eq]; exact hl.2, newL_at h r (rel_strs _)⟩
      rw [sS_len]
      exact len_ne hl.1
    · exact h.elim
  · exact h.elim
theorem mePartition_ok : MtR X "str.partition" (rMe c mPartition) := by
  intro pins s σ H x vs v us Q I rx rv h
  obtain ⟨ρ, st, w, ws, r, r1, rs, h⟩ := h
  unfold mPartition at h
  split at h
  · obtain ⟨y, rfl, r2⟩ := relL_one rs
    cases relS_eq r1; cases relS_eq r2
    split at h
    · rename_i a b hl
      refine mt_partition pins s σ H _ _ v us Q I rx rv ⟨_, _, rfl, rfl, ?_, by rw [sS_len, sizeLine_eq]; exact hl.2, fun p hp => ?_⟩
      · rw [sS_len]
        exact len_ne hl.1
      · refine h ρ _ (Ext.fresh hp) (r.fresh hp) _ (RelW.tup_new (RelL.cons ?_ (RelL.cons ?_ (RelL.cons ?_ RelL.nil))) hp (r.out hp)) <;> simp only [RelW, uS, sS_of]
    · exact h.elim
  · exact h.elim
theorem meJoin_ok (hK : X.K = c.K) : MtR X "str.join" (rMe c mJoin) := by
  intro pins s σ H x vs v us Q I rx rv h
  obtain ⟨ρ, st, w, ws, r, r1, rs, h⟩ := h
  unfold mJoin at h
  split at h
  · obtain ⟨y, rfl, r2⟩ := relL_one rs
    cases relS_eq r1
    split at h
    · rename_i l e
      split at h
      · rename_i ys e2
        obtain ⟨a, xs, rfl, rs', hq⟩ := lstOf_ok0 r r2 e
        cases strs_of e2
        cases relStrs rs'
        split at h
        · rename_i hl
          refine mt_join pins s σ H _ _ v us Q I rx rv ⟨_, a, ys.map sS, rfl, rfl, .inl (by rw [hK]; exact hq), ?_, ?_⟩
          · rw [List.map_map, List.length_map, sS_len]
            have e3 : (List.map ((fun x : Str => x.length) ∘ sS) ys) = ys.map (·.length) := List.map_congr_left fun z _ => sS_len z
            rw [e3]
            exact hl
          · have z := QV.at h r (of_str _)
            unfold uS at z
            rw [sS_of] at z
            exact z
        · exact h.elim
      · exact h.elim
    · exact h.elim
  · exact h.elim
theorem meZfill_ok : MtR X "str.zfill" (rMe c mZfill) := by
  intro pins s σ H x vs v us Q I rx rv h
  obtain ⟨ρ, st, w, ws, r, r1, rs, h⟩ := h
  unfold mZfill at h
  split at h
  · obtain ⟨y, rfl, r2⟩ := relL_one rs
    cases relS_eq r1; cases rel_int r2
    split at h
    · rename_i hl
      refine mt_zfill pins s σ H _ _ v us Q I rx rv ⟨_, _, rfl, rfl, hl, ?_⟩
      have z := QV.at h r (of_str _)
      unfold uS at z
      rw [sS_of] at z
      exact z
    · exact h.elim
  · exact h.elim
theorem meCount_ok : MtR X "str.count" (rMe c mCount) := by
  intro pins s σ H x vs v us Q I rx rv h
  obtain ⟨ρ, st, w, ws, r, r1, rs, h⟩ := h
  unfold mCount at h
  split at h
  · obtain ⟨y, rfl, r2⟩ := relL_one rs
    cases relS_eq r1; cases relS_eq r2
    exact mt_count pins s σ H _ _ v us Q I rx rv ⟨_, _, rfl, rfl, QV.at h r (of_int _)⟩
  · exact h.elim
/-- how a method is found -/
structure Mth (X : Cx) (c : Cfg) (T : String) (name : Str) (f : St → W → List W → R W) : Prop where
  pa : PlainAttrs T
  ex : ∃ id, Slot T name id ∧ typeOf (.builtin id) = pure (.type "method_descriptor") ∧ MtR X id (rMe c f)
theorem mth_of (hK : X.K = c.K) {fz : Bool} (k : Rc) (m : M) (h : mok k m = true) : Mth X c (rcT k) (meN m) (fun st w ws => methW fz m w ws st) := by
  cases k with
  | lst =>
    cases m
    case append => exact ⟨PySem.F.plainAttrs_list, _, PySem.F.slot_list_append, PySem.F.type_list_append, meAppend_ok⟩
    case pop => exact ⟨PySem.F.plainAttrs_list, _, PySem.F.slot_list_pop, PySem.F.type_list_pop, mePop_ok⟩
    case clear => exact ⟨PySem.F.plainAttrs_list, _, PySem.F.slot_list_clear, PySem.F.type_list_clear, meClear_ok⟩
    case extend => exact ⟨PySem.F.plainAttrs_list, _, PySem.F.slot_list_extend, PySem.F.type_list_extend, meExtend_ok hK⟩
    all_goals cases h
  | str =>
    cases m
    case split => exact ⟨PySem.F.plainAttrs_str, _, PySem.F.slot_str_split, PySem.F.type_str_split, meSplit_ok⟩
    case partition => exact ⟨PySem.F.plainAttrs_str, _, PySem.F.slot_str_partition, PySem.F.type_str_partition, mePartition_ok⟩
    case join => exact ⟨PySem.F.plainAttrs_str, _, PySem.F.slot_str_join, PySem.F.type_str_join, meJoin_ok hK⟩
    case zfill => exact ⟨PySem.F.plainAttrs_str, _, PySem.F.slot_str_zfill, PySem.F.type_str_zfill, meZfill_ok⟩
    case count => exact ⟨PySem.F.plainAttrs_str, _, PySem.F.slot_str_count, PySem.F.type_str_count, meCount_ok⟩
    all_goals cases h
theorem notCall0_base {o : Expr} {n : Str} {env : PySem.Env} {w : Sem Value} (h : notCall0 o = true) : attributeBase o n env w = w := by
  unfold attributeBase
  split
  · exact absurd h (by simp [notCall0])
  · rfl
theorem all_plain {env : PySem.Env} {pos : Pos} : ∀ {es : List Expr}, (∀ e ∈ es, notStar e = true) → (backTo pos (starEach es env)).all (fun x => !x.1) = true ∧ (backTo pos (starEach es env)).any (·.1) = false
  | [], _ => ⟨rfl, rfl⟩
  | a :: r, h => by
    obtain ⟨h1, h2⟩ := all_plain (env := env) (pos := pos) (es := r) fun e he => h e (List.mem_cons_of_mem _ he)
    have e := star_cons (env := env) (es := r) (h a List.mem_cons_self)
    unfold backTo at h1 h2 ⊢
    rw [e, List.map_cons, List.all_cons, List.any_cons]
    exact ⟨by rw [h1]; rfl, by rw [h2]; rfl⟩
theorem tE_mono {σ : L2.St} {H : Hp} {Q Q' : VK} (h : tE c Wx ea σ H Q) (k : ∀ v H', Q v H' → Q' v H') : tE c Wx ea σ H Q' := by
  obtain ⟨ρ, st, env, r, re, h⟩ := h
  exact ⟨ρ, st, env, r, re, h.imp fun w st1 ρ1 H1 _ _ _ q v rv => k _ _ (q v rv)⟩
/-- o.m(..), o's kind known -/
def tMe (c : Cfg) (Wx : WX) (ea : Env → St → R W) (er : Env → St → R (List W)) (k : Rc) (f : St → W → List W → R W) : TE := fun σ H Q => tE c Wx ea σ H fun x H1 => tyV c.K (rcT k) x H1 ∧ tEs c Wx er σ H1 fun xs H2 => rMe c f x xs H2 Q
theorem E_methK {fz : Bool} {m : M} {apos : Pos} {k : Rc} (hK : X.K = c.K) (hk : mok k m = true) (hb : notCall0 d = true) (hl : (apos.endLine == pos.line) = true) (hst : ∀ e ∈ es, notStar e = true) (hle : es.length < 20) (hd : PE X d (tE c Wx ea)) (ha : PA X es (tEs c Wx er)) (h0 : es = [] → er = fun _ s => .ok [] s) :
    PE X (.Call (.Attribute d (meN m) apos) es [] pos) (tMe c Wx ea er k fun st w ws => methW fz m w ws st) := by
  obtain ⟨pa, id, slot, hty, hm⟩ := mth_of (X := X) hK (fz := fz) k m hk
  cases es with
  | nil =>
    refine PE.weak (pe_bm0 pa slot hty hm hd (notCall0_base hb) hl) fun σ H Q h => ?_
    refine tE_mono h fun v H1 q => ⟨by rw [hK]; exact q.1, ?_⟩
    obtain ⟨ρ, st, env, r, re, z⟩ := q.2
    rw [h0 rfl] at z
    exact Post.here z r [] RelL.nil
  | cons a l =>
    have ap := all_plain (env := X.env) (pos := pos) (es := l) fun e he => hst e (List.mem_cons_of_mem _ he)
    have ap' := all_plain (env := X.env) (pos := pos) (es := a :: l) hst
    refine PE.weak (pe_bm pa slot hty hm hd ha (notCall0_base hb) ?_ hl (star_cons (hst a List.mem_cons_self)) ap.2) fun σ H Q h => ?_
    · rw [ap'.1]
      have hle : l.length + 1 < 20 := hle
      have : decide ((a :: l).length + 0 + 0 < 30) = true := decide_eq_true (by show l.length + 1 + 0 + 0 < 30; omega)
      exact this
    · exact tE_mono h fun v H1 q => ⟨by rw [hK]; exact q.1, q.2⟩
/-- o.m(..) -/
theorem E_meth {fz : Bool} {m : M} {apos : Pos} (hK : X.K = c.K) (hmk : mokA m = true) (hb : notCall0 d = true) (hl : (apos.endLine == pos.line) = true) (hst : ∀ e ∈ es, notStar e = true) (hle : es.length < 20) (hd : PE X d (tE c Wx ea)) (ha : PA X es (tEs c Wx er)) (h0 : es = [] → er = fun _ s => .ok [] s) :
    PE X (.Call (.Attribute d (meN m) apos) es [] pos) (tE c Wx fun e s => (ea e s).bind fun x s => (match recv s x with
      | some k => if mok k m = true then (er e s).bind fun ws s => methW fz m x ws s else .bad
      | none => .bad)) := by
  obtain ⟨k0, hk0⟩ : ∃ k, mok k m = true := by
    unfold mokA at hmk
    rcases Bool.or_eq_true_iff.mp hmk with h | h
    · exact ⟨_, h⟩
    · exact ⟨_, h⟩
  refine ⟨fun pins s σ H Q I h => ?_⟩
  obtain ⟨ρ, st, env, r, re, h⟩ := h
  dsimp only at h
  have sel : ∃ k, mok k m = true ∧ ∀ x s, ea env st = .ok x s → recv s x = some k := by
    cases e : ea env st with
    | bad => rw [e] at h; exact h.elim
    | exc _ _ _ => exact ⟨k0, hk0, fun _ _ z => by cases z⟩
    | ok x s1 =>
      rw [e] at h
      have h : Post c _ ρ H (match recv s1 x with
        | some k => if mok k m = true then (er env s1).bind fun ws s => methW fz m x ws s else .bad
        | none => .bad) _ := h
      split at h
      · rename_i k ek
        split at h
        · rename_i hk
          exact ⟨k, hk, fun _ _ z => by cases z; exact ek⟩
        · exact h.elim
      · exact h.elim
  obtain ⟨k, hk, sel⟩ := sel
  refine (E_methK (fz := fz) (er := er) hK hk hb hl hst hle hd ha h0).run pins s σ H Q I ?_
  refine ⟨ρ, st, env, r, re, h.bind.imp fun w st1 ρ1 H1 eq x1 r1 h v rv => ?_⟩
  have hs := sel w st1 eq
  rw [hs] at h
  have h : Post c _ ρ1 H1 (if mok k m = true then (er env st1).bind fun ws s => methW fz m w ws s else .bad) _ := h
  rw [if_pos hk] at h
  exact ⟨recv_ty r1 rv hs, ρ1, st1, env, r1, re.ext x1, h.bind.imp fun ws st2 ρ2 H2 _ x2 r2 h vs rvs => ⟨ρ2, st2, w, ws, r2, rv.ext x2, rvs, h.nox (nox_methW fz m w ws st2)⟩⟩
/-! ### isinstance -/
theorem tyN_S {t : Ty} {x : Str} (h : tyN t = some x) : bootBuiltins x = some (.type (tyS t)) ∧ x ≠ "__name__" ∧ (x == ("__debug__" : Str)) = false := by
  cases t <;> cases h <;> (refine ⟨?_, ?_, ?_⟩ <;> decide +kernel)
theorem E_isi {p p' : Pos} {t : Ty} {x : Str} (hK : X.K = c.K) (hg : Gl X "isinstance") (hm : X.mg "isinstance" = none) (ht : tyN t = some x) (hg' : Gl X x) (hm' : X.mg x = none) (hs : notStar a = true) (ha : PE X a (tE c Wx ea)) :
    PE X (.Call (.Name "isinstance" p) [a, .Name x p'] [] pos) (tE c Wx fun e s => (ea e s).bind fun z s => okB s (isTys s z [t])) := by
  obtain ⟨h1, h2, h3⟩ := tyN_S ht
  have hn : PE X (.Name x p') (tC (.ty (tyS t))) := pe_bltn hg' hm' h1 rfl h2 h3
  have base := pe_callB (pos := pos) (p := p) call_isi hg hm (by decide +kernel) (pa_cons ha (pa_cons hn pa_nil (star_cons rfl)) (star_cons hs)) (by decide) (by decide) (star_cons hs) rfl
  refine PE.weak base fun σ H Q h => ?_
  obtain ⟨ρ, st, env, r, re, h⟩ := h
  refine ⟨ρ, st, env, r, re, h.bind.imp fun w st1 ρ1 H1 e x1 r1 h v rv => ?_⟩
  obtain ⟨b, e2, q⟩ := okB_at (h.nox (nox_okB _ _)) r1
  obtain ⟨z, k1, k2⟩ := isTy_ok r1 rv (by rw [ht]; rfl) e2
  exact ⟨v, .ty (tyS t), .type z, .type (tyS t), b, rfl, .ty _, by rw [hK]; exact k1, kit_ty k2, q⟩

/-! ### a def is called -/
/-- what a def of ours promises -/
def spF (c : Cfg) (cl : List W → St → R W) : Sp := fun vs H Q E => ∃ ρ st ws, Rel c ρ H st ∧ RelL c ρ H ws vs ∧ Post c E ρ H (cl ws st) (QV c Q)
theorem E_call {f : Addr} {fd : FuncData} {ps : List Str} {k : Nat} {cl : List W → St → R W} {x : Str} {p : Pos} {ds : List W} {dvs : List V} {us : List Value} (F : FnOk X.prog X.w X.K X.mg X.base (L2.CX X.prog X.w) k f fd ps (spF c cl)) (hr : Room k X.A) (hg : Gl X x) (hm : X.mg x = some (.ref f))
    (hk : PySem.W.keepIn X.K (.ref f) = true) (hb : Binds X.K fd ps us) (hd : Vals dvs us) (hds : ∀ ρ H, RelL c ρ H ds dvs) (tk : Takes X Wx) (hdb : (x == ("__debug__" : Str)) = false) (hs : notStar a = true) (hpl : (backTo pos (starEach es X.env)).any (·.1) = false) (ha : PA X (a :: es) (tEs c Wx er)) :
    PE X (.Call (.Name x p) (a :: es) [] pos) (tE c Wx fun e s => (er e s).bind fun ws s => cl (ws ++ ds) s) :=
  PE.weak (pe_callSD F hr hg hm hk hb hd (passAt tk) ha hdb (star_cons hs) hpl) fun σ H Q h => by
    obtain ⟨ρ, st, env, r, re, h⟩ := h
    exact ⟨ρ, st, env, r, re, h.bind.imp fun ws st1 ρ1 H1 e x1 r1 h vs rv => ⟨ρ1, st1, ws ++ ds, r1, rv.append (hds _ _), h⟩⟩
theorem E_call0 {f : Addr} {fd : FuncData} {ps : List Str} {k : Nat} {cl : List W → St → R W} {x : Str} {p : Pos} {ds : List W} {dvs : List V} {us : List Value} (F : FnOk X.prog X.w X.K X.mg X.base (L2.CX X.prog X.w) k f fd ps (spF c cl)) (hr : Room k X.A) (hg : Gl X x) (hm : X.mg x = some (.ref f))
    (hk : PySem.W.keepIn X.K (.ref f) = true) (hb : Binds X.K fd ps us) (hd : Vals dvs us) (hds : ∀ ρ H, RelL c ρ H ds dvs) (tk : Takes X Wx) (hdb : (x == ("__debug__" : Str)) = false) :
    PE X (.Call (.Name x p) [] [] pos) (tE c Wx fun e s => (R.ok [] s).bind fun ws s => cl (ws ++ ds) s) := by
  refine ⟨fun pins s σ H Q I h => ?_⟩
  obtain ⟨ρ, st, env, r, re, h⟩ := h
  refine wpAny_Call_Name_kw (ld_glob I hg hm ?_ hdb)
  exact PySem.W.callWith_K0 I.kIn hk (run_fnSD (us := []) (vs := []) (E := WE Wx) F hr hb hd (passAt tk σ) I .nil ⟨ρ, st, ds, r, hds _ _, h⟩)

/-! ### what is walked -/
def WalkOk (c : Cfg) (J : L2.It) (ρ₀ : Rho) (H₀ : Hp) (items : List W) (chk : St → Prop) : Prop :=
  ∀ ρ H st, Tr ρ₀ H₀ ρ H → Rel c ρ H st → chk st → ∀ (i : Nat), (∀ w, items[i]? = some w → J.go i H ∧ ∀ x H', J.yld i H x H' → Ext ρ H ρ H' ∧ Rel c ρ H' st ∧ RelW c ρ H' w x) ∧ (items.length ≤ i → J.stop i H)
def tI (c : Cfg) (Wx : WX) (ei : Env → St → R Walk) : TI := fun σ H R => ∃ ρ st env, Rel c ρ H st ∧ REnv c ρ H env σ ∧ Post c (fun k d H' => Wx k d σ H') ρ H (ei env st) fun wk _ ρ' H' => ∀ J, WalkOk c J ρ' H' wk.items wk.chk → R J H'
theorem Itl_ok {K : PySem.W.Frag} (hK : K = c.K) {ρ₀ : Rho} {H₀ : Hp} {p : Addr} {xs : List V} {l : List W} (t : LstAt c ρ₀ H₀ p xs) (rs : RelL c ρ₀ H₀ l xs) : WalkOk c (Itl K p) ρ₀ H₀ l fun _ => True := by
  subst hK
  intro ρ H st x r _ i
  have sq := (t.tr x).sq
  have rs' := rs.tr x
  refine ⟨fun w e => ?_, fun hl => ⟨xs, sq, by rw [← rs'.length]; exact hl⟩⟩
  obtain ⟨v, e1, rv⟩ := rs'.get e
  refine ⟨⟨xs, v, sq, e1⟩, fun y H' q => ?_⟩
  obtain ⟨rfl, q⟩ := q
  have e2 := q xs sq
  rw [e1] at e2; cases e2
  exact ⟨Ext.refl, r, rv⟩
theorem Itt_ok {K : PySem.W.Frag} (hK : K = c.K) {ρ₀ : Rho} {H₀ : Hp} {p : Addr} {xs : List V} {l : List W} (t : TupAt c ρ₀ H₀ p xs) (rs : RelL c ρ₀ H₀ l xs) : WalkOk c (Itt K p) ρ₀ H₀ l fun _ => True := by
  subst hK
  intro ρ H st x r _ i
  have sq := (t.tr x).sq
  have rs' := rs.tr x
  refine ⟨fun w e => ?_, fun hl => ⟨xs, sq, by rw [← rs'.length]; exact hl⟩⟩
  obtain ⟨v, e1, rv⟩ := rs'.get e
  refine ⟨⟨xs, v, sq, e1⟩, fun y H' q => ?_⟩
  obtain ⟨rfl, q⟩ := q
  have e2 := q xs sq
  rw [e1] at e2; cases e2
  exact ⟨Ext.refl, r, rv⟩
/-- a list of the store, unchanged -/
theorem Itr_ok {K : PySem.W.Frag} {ρ₀ : Rho} {H₀ : Hp} {n : Nat} {p : Addr} {l : List W} (e : ρ₀.l[n]? = some p) : WalkOk c (Itl K p) ρ₀ H₀ l fun st => st[n]? = some (.lst l) := by
  intro ρ H st x r hc i
  obtain ⟨p', e1, xs, e2, rs⟩ := r.at_n hc
  rw [x.get e] at e1; cases e1
  refine ⟨fun w e => ?_, fun hl => ⟨xs, SqL.of e2, by rw [← rs.length]; exact hl⟩⟩
  obtain ⟨v, e3, rv⟩ := rs.get e
  refine ⟨⟨xs, v, SqL.of e2, e3⟩, fun y H' q => ?_⟩
  obtain ⟨rfl, q⟩ := q
  have e4 := q xs (SqL.of e2)
  rw [e3] at e4; cases e4
  exact ⟨Ext.refl, r, rv⟩
theorem Its_ok {ρ₀ : Rho} {H₀ : Hp} {l : List Nat} : WalkOk c (Its (sS l)) ρ₀ H₀ (l.map fun k => .str [k]) fun _ => True := by
  intro ρ H st x r _ i
  refine ⟨fun w e => ?_, fun hl => ?_⟩
  · rw [List.getElem?_map] at e
    cases e1 : l[i]? with
    | none => rw [e1] at e; cases e
    | some k =>
      rw [e1] at e; cases e
      have hi := (List.getElem?_eq_some_iff.mp e1).1
      refine ⟨by show i < (sS l).cps.size; simpa using hi, fun y H' q => ?_⟩
      obtain ⟨rfl, k', e2, rfl⟩ := q
      have e3 : l[i]? = some k' := by simpa using e2
      rw [e1] at e3; cases e3
      exact ⟨Ext.refl, r, of_str _⟩
  · show (sS l).cps.size ≤ i
    simpa using hl
theorem Itg_ok {ρ₀ : Rho} {H₀ : Hp} {a : Int} {n : Nat} : WalkOk c (L2.Itr a n) ρ₀ H₀ (rng a n 1) fun _ => True := by
  intro ρ H st x r _ i
  unfold rng
  refine ⟨fun w e => ?_, fun hl => (show n ≤ i by simpa using hl)⟩
  rw [List.getElem?_map] at e
  cases e1 : (List.range n)[i]? with
  | none => rw [e1] at e; cases e
  | some k =>
    rw [e1] at e; cases e
    have hi := (List.getElem?_eq_some_iff.mp e1).1
    have ek : k = i := by
      have := (List.getElem?_eq_some_iff.mp e1).2
      simpa using this.symm
    subst ek
    refine ⟨(show k < n by simpa using hi), fun y H' q => ?_⟩
    obtain ⟨rfl, rfl⟩ := q
    refine ⟨Ext.refl, r, ?_⟩
    show RelW c ρ H' (.int (a + (k : Int) * 1)) _
    rw [Int.mul_one]
    exact of_int _
theorem Itc_ok {ρ₀ : Rho} {H₀ : Hp} {a k : Int} {n : Nat} : WalkOk c (Itc a k n) ρ₀ H₀ (rng a n k) fun _ => True := by
  intro ρ H st x r _ i
  unfold rng
  refine ⟨fun w e => ?_, fun hl => (show n ≤ i by simpa using hl)⟩
  rw [List.getElem?_map] at e
  cases e1 : (List.range n)[i]? with
  | none => rw [e1] at e; cases e
  | some j =>
    rw [e1] at e; cases e
    have hi := (List.getElem?_eq_some_iff.mp e1).1
    have ek : j = i := by
      have := (List.getElem?_eq_some_iff.mp e1).2
      simpa using this.symm
    subst ek
    refine ⟨(show j < n by simpa using hi), fun y H' q => ?_⟩
    obtain ⟨rfl, rfl⟩ := q
    exact ⟨Ext.refl, r, of_int _⟩
/-- a dict of the store whose keys are tuples, unchanged -/
theorem Itq_ok {ρ₀ : Rho} {H₀ : Hp} {n : Nat} {p : Addr} {l : List (W × W)} (e : ρ₀.l[n]? = some p) : WalkOk c (Itq c p l.length) ρ₀ H₀ (l.map (·.1)) fun st => st[n]? = some (.dict true l) := by
  intro ρ H st x r hc i
  obtain ⟨p', e1, oa⟩ := r.at_n hc
  rw [x.get e] at e1; cases e1
  obtain ⟨xs, d, rt⟩ := dt_in oa
  have hl := relT_len rt
  refine ⟨fun w ew => ?_, fun h => ⟨⟨xs, d.e, hl.symm⟩, by simpa using h⟩⟩
  rw [List.getElem?_map] at ew
  cases e3 : l[i]? with
  | none => rw [e3] at ew; cases ew
  | some pr =>
    rw [e3] at ew; cases ew
    refine ⟨⟨⟨xs, d.e, hl.symm⟩, (List.getElem?_eq_some_iff.mp e3).1⟩, fun y H' q => ?_⟩
    obtain ⟨rfl, q⟩ := q
    obtain ⟨q', e4, rfl⟩ := q xs d.e
    refine ⟨Ext.refl, r, ?_⟩
    have ks := keys_rel rt
    obtain ⟨v, e5, rv⟩ := ks.get (i := i) (w := pr.1) (by rw [List.getElem?_map, e3]; rfl)
    rw [List.getElem?_map, e4] at e5
    cases e5
    exact rv
theorem I_val [Pwx X c] {tg : Expr} (hK : X.K = c.K) (ha : PE X a (tE c Wx ea)) : PI X tg a (tI c Wx fun e s => (ea e s).bind fun w s => (match walkVal s w with
    | some wk => .ok wk s
    | none => .bad)) := by
  refine ⟨fun pins s σ H RR I h => ?_⟩
  obtain ⟨ρ, st, env, r, re, h⟩ := h
  have h := h.bind
  have list_ : ∀ (hq : ∀ w st1 ρ1 H1 v, ea env st = .ok w st1 → Ext ρ H ρ1 H1 → Rel c ρ1 H1 st1 → RelW c ρ1 H1 w v → Post c (fun k d H' => Wx k d σ H') ρ1 H1 (match walkVal st1 w with
      | some wk => (.ok wk st1 : R Walk)
      | none => .bad) (fun wk _ ρ' H' => ∀ J, WalkOk c J ρ' H' wk.items wk.chk → RR J H') → ∃ p, v = .ref p ∧ (∃ xs, SqL X.K H1 p xs) ∧ RR (Itl X.K p) H1), wpAny (model X.prog X.w) X.A (eval a X.env) (fun v s1 => wpAny (model X.prog X.w) X.A (pyIter v) (PIE X pins σ tg RR) X.xe s1) X.xe s := fun hq =>
    (pi_list ha).run pins s σ H RR I ⟨ρ, st, env, r, re, h.imp fun w st1 ρ1 H1 e x1 r1 h v rv => hq w st1 ρ1 H1 v e x1 r1 rv h⟩
  cases e0 : ea env st with
  | bad => rw [e0] at h; exact h.elim
  | exc _ _ _ => exact list_ fun w st1 ρ1 H1 v e => by rw [e0] at e; cases e
  | ok w0 s0 =>
    cases w0 with
    | lst l =>
      refine list_ fun w st1 ρ1 H1 v e x1 r1 rv h => ?_
      rw [e0] at e; cases e
      simp only [RelW] at rv
      obtain ⟨p, xs, rfl, t, rs⟩ := rv
      exact ⟨p, rfl, ⟨xs, by rw [hK]; exact t.sq⟩, Post.here h r1 _ (Itl_ok hK t rs)⟩
    | ref n =>
      have ew : walkVal s0 (.ref n) = (match s0[n]? with
        | some (.lst l) => some ⟨l, fun st' => st'[n]? = some (.lst l)⟩
        | some (.dict true l) => some ⟨l.map (·.1), fun st' => st'[n]? = some (.dict true l)⟩
        | _ => none) := rfl
      by_cases hd : ∃ l, s0[n]? = some (.dict true l)
      · obtain ⟨l, hd⟩ := hd
        refine (pi_dtq (c := c) ha).run pins s σ H RR I ⟨ρ, st, env, r, re, h.imp fun w st1 ρ1 H1 e x1 r1 h v rv => ?_⟩
        rw [e0] at e; cases e
        simp only [RelW] at rv
        obtain ⟨p, e1, rfl⟩ := rv
        obtain ⟨p', e4, oa⟩ := r1.at_n hd
        rw [e1] at e4; cases e4
        obtain ⟨xs, d, rt⟩ := dt_in oa
        rw [ew, hd] at h
        have q := Post.here h r1 _ (Itq_ok e1)
        rw [relT_len rt] at q
        exact ⟨p, xs, rfl, d.hs, d.e, q⟩
      refine list_ fun w st1 ρ1 H1 v e x1 r1 rv h => ?_
      rw [e0] at e; cases e
      rw [ew] at h
      simp only [RelW] at rv
      obtain ⟨p, e1, rfl⟩ := rv
      split at h
      · rename_i wk e2
        split at e2
        · rename_i l e3
          cases e2
          obtain ⟨p', e4, xs, e5, rs⟩ := r1.at_n e3
          rw [e1] at e4; cases e4
          exact ⟨p, rfl, ⟨xs, SqL.of e5⟩, Post.here h r1 _ (Itr_ok e1)⟩
        · rename_i l e3
          exact absurd ⟨l, e3⟩ hd
        · cases e2
      · exact h.elim
    | tup l =>
      refine (pi_tup ha).run pins s σ H RR I ⟨ρ, st, env, r, re, h.imp fun w st1 ρ1 H1 e x1 r1 h v rv => ?_⟩
      rw [e0] at e; cases e
      simp only [RelW] at rv
      obtain ⟨p, xs, rfl, t, rs⟩ := rv
      exact ⟨p, rfl, ⟨xs, by rw [hK]; exact t.sq⟩, Post.here h r1 _ (Itt_ok hK t rs)⟩
    | str l =>
      refine (pi_str ha).run pins s σ H RR I ⟨ρ, st, env, r, re, h.imp fun w st1 ρ1 H1 e x1 r1 h v rv => ?_⟩
      rw [e0] at e; cases e
      cases relS_eq rv
      exact ⟨_, rfl, Post.here h r1 _ Its_ok⟩
    | _ =>
      exact list_ fun w st1 ρ1 H1 v e x1 r1 rv h => by
        rw [e0] at e; cases e
        exact h.elim
theorem I_range {tg : Expr} {n : Nat} {p : Pos} (hl : Len es.length er) (h3 : 1 ≤ es.length ∧ es.length ≤ 3) (hg : Gl X "range") (hm : X.mg "range" = none) (hn : ∀ e ∈ es, notStar e = true) (ha : PA X es (tEs c Wx er)) : PI X tg (.Call (.Name "range" p) es [] pos) (tI c Wx fun e s => (er e s).bind fun ws s => (match walkRange ws with
    | some wk => .ok wk s
    | none => .bad)) := by
  refine ⟨fun pins s σ H R I h => ?_⟩
  obtain ⟨ρ, st, env, r, re, h⟩ := h
  have h := h.bind
  match es, h3, hn, ha, hl with
  | [a], _, hn, ha, hl =>
    refine (pi_range1 hg hm ha (star_cons (hn a (by simp)))).run pins s σ H R I ⟨ρ, st, env, r, re, h.imp fun ws st1 ρ1 H1 e x1 r1 h vs rv => ?_⟩
    have hl := hl _ _ _ _ e
    match ws, hl with
    | [w], _ =>
      obtain ⟨v, rfl, rv1⟩ := relL_one rv
      cases w with
      | int b =>
        cases rel_int rv1
        have ew : walkRange [.int b] = if small b then some ⟨rng 0 b.toNat 1, fun _ => True⟩ else none := rfl
        rw [ew] at h
        split at h
        · rename_i wk e2
          split at e2
          · rename_i hs
            cases e2
            exact ⟨b, rfl, hs.1, hs.2, Post.here h r1 _ Itg_ok⟩
          · cases e2
        · exact h.elim
      | _ => exact h.elim
  | [a, b], _, hn, ha, hl =>
    refine (pi_range2 hg hm ha (by rw [star_cons (hn a (by simp)), star_cons (hn b (by simp))]; rfl) (star_cons (hn b (by simp)))).run pins s σ H R I ⟨ρ, st, env, r, re, h.imp fun ws st1 ρ1 H1 e x1 r1 h vs rv => ?_⟩
    have hl := hl _ _ _ _ e
    match ws, hl with
    | [w, u], _ =>
      obtain ⟨v, v', rfl, rv1, rv'⟩ := relL_two rv
      cases w with
      | int i =>
        cases u with
        | int j =>
          cases rel_int rv1
          cases rel_int rv'
          have ew : walkRange [.int i, .int j] = if small i ∧ small j then some ⟨rng i (j - i).toNat 1, fun _ => True⟩ else none := rfl
          rw [ew] at h
          split at h
          · rename_i wk e2
            split at e2
            · rename_i hs
              cases e2
              exact ⟨i, j, rfl, ⟨hs.1.1, hs.1.2, hs.2.1, hs.2.2⟩, Post.here h r1 _ Itg_ok⟩
            · cases e2
          · exact h.elim
        | _ => exact h.elim
      | _ => exact h.elim
  | [a, b, d], _, hn, ha, hl =>
    refine (pi_range3 hg hm ha (star_cons (hn a (by simp))) (by rw [star_cons (hn b (by simp)), star_cons (hn d (by simp))]; rfl)).run pins s σ H R I ⟨ρ, st, env, r, re, h.imp fun ws st1 ρ1 H1 e x1 r1 h vs rv => ?_⟩
    have hl := hl _ _ _ _ e
    match ws, hl with
    | [w, u, z], _ =>
      cases w with
      | int i =>
        cases u with
        | int j =>
          cases z with
          | int k =>
            simp only [RelL, RelW] at rv
            obtain ⟨_, _, rfl, rfl, _, _, rfl, rfl, _, _, rfl, rfl, rfl⟩ := rv
            have ew : walkRange [.int i, .int j, .int k] = if PySem.Builtin.Range.small i j k = true ∧ 0 < k ∧ k < 1073741824 then some ⟨rng i (steps i j k) k, fun _ => True⟩ else none := rfl
            rw [ew] at h
            split at h
            · rename_i wk e2
              split at e2
              · rename_i hs
                cases e2
                obtain ⟨h1, h2, h3⟩ := hs
                refine ⟨i, j, k, steps i j k, rfl, ⟨by omega, by omega, h1, ?_⟩, Post.here h r1 _ Itc_ok⟩
                unfold PySem.Builtin.Range.rangeSize steps
                rw [if_pos (show k > 0 by omega)]
                split
                · rename_i hij
                  have : 0 ≤ (j - i - 1) / k := Int.ediv_nonneg (by omega) (by omega)
                  omega
                · rfl
              · cases e2
            · exact h.elim
          | _ => exact h.elim
        | _ => exact h.elim
      | _ => exact h.elim
  | [], h3, _, _, _ => exact absurd h3.1 (by simp)
  | _ :: _ :: _ :: _ :: _, h3, _, _, _ => exact absurd h3.2 (by simp)
end
end Px

set_option linter.all false
set_option maxRecDepth 100000
set_option maxHeartbeats 0
/-! PxX: exceptions that are kept: asked for their class, their field; a name that takes the caught one. -/
namespace Px
open PySem PySem.Spec PyProof.Rows L2

/-- an object of this call's own, not noted as yet, is noted -/
theorem note {X : Cx} {pins : List (Addr × Obj)} {σ : L2.St} {H : Hp} {s : Shared} {a : Addr} {oe : Obj} {φ : Heap → Prop} (I : Inv X pins σ H s) (h0 : X.s_0.heap.get? a = none) (ha : s.heap.get? a = some oe) (hn : H a = none) (nL : a ≠ X.env.locals) (nc : ∀ v, oe.data ≠ .cell v)
    (np : ∀ p ∈ X.pn ++ pins, p.1 ≠ a) (new : φ s.heap) (st : ∀ h1 h2 : Heap, φ h1 → (∀ o, h1.get? a = some o → h2.get? a = some o) → φ h2) : Inv X pins σ (upd H a (.ext φ)) s := by
  have keep : ∀ b o, H b = some o → upd H a (.ext φ) b = some o := fun b o e => by rw [upd_ne (ne_of_none e hn)]; exact e
  refine ⟨I.ok, I.os, I.bare, ⟨I.base.keep, I.base.slot, fun b o e n hx => ?_, I.base.there, fun b xs e => keep b _ (I.base.tups b xs e), fun b o u e => keep b _ (I.base.frzs b o u e), fun b ps e => ?_⟩, I.loc, I.cell, ?_, fun x c e => ?_, fun p hp => ?_, fun b u e => ?_, I.len⟩
  · have : b ≠ a := fun z => by subst z; rw [h0] at e; cases e
    rw [upd_ne this]
    exact I.base.free b o e n hx
  · obtain ⟨more, q⟩ := I.base.tbls b ps e
    exact ⟨more, keep b _ q⟩
  · rw [upd_ne (Ne.symm nL)]; exact I.free
  · have : c ≠ a := fun z => by
      obtain ⟨v, q⟩ := I.cell x c e
      obtain ⟨o, q1, q2⟩ : ∃ o, s.heap.get? c = some o ∧ ∃ v, o.data = .cell v := by
        first
          | exact ⟨_, q, _, rfl⟩
          | exact ⟨_, q.1, _, q.2⟩
          | (obtain ⟨o, q1, q2⟩ := q; exact ⟨o, q1, _, q2⟩)
          | (obtain ⟨o, q1, q2, q3⟩ := q; exact ⟨o, q1, _, q3⟩)
      rw [z, ha] at q1
      cases q1
      obtain ⟨v', q2⟩ := q2
      exact nc _ q2
    rw [upd_ne this]
    exact I.freeC x c e
  · obtain ⟨e, n, r⟩ := I.pin p hp
    exact ⟨e, by rw [upd_ne (np p hp)]; exact n, r⟩
  · by_cases hb : b = a
    · subst hb
      rw [upd_same] at e
      cases e
      exact ⟨new, ⟨_, ha⟩, st⟩
    · rw [upd_ne hb] at e
      exact (I.hok b u e).stay (fun _ _ _ q => q) (fun c q => keep c _ q) fun c xs q => keep c _ q
theorem exq_st {a : Addr} {cls : Value} {d : Option Addr} : ∀ h1 h2 : Heap, (∃ o, h1.get? a = some o ∧ Zc cls d o ∧ ∃ vs, o.data = .fields vs) → (∀ o, h1.get? a = some o → h2.get? a = some o) → ∃ o, h2.get? a = some o ∧ Zc cls d o ∧ ∃ vs, o.data = .fields vs :=
  fun _ _ ⟨o, e, z⟩ k => ⟨o, k o e, z⟩
theorem exq_at {X : Cx} {pins : List (Addr × Obj)} {σ : L2.St} {H : Hp} {s : Shared} {a : Addr} {cls : Value} {d : Option Addr} (I : Inv X pins σ H s) (h : H a = some (exq a cls d)) : ∃ o, s.heap.get? a = some o ∧ Zc cls d o ∧ ∃ vs, o.data = .fields vs := by
  have x : ObjOk X.prog X.w H s.heap a (exq a cls d) := I.hok a _ h
  exact x.1
/-- its object, as the library's rules take it -/
theorem exq_inst {h : Heap} {a C : Addr} {d : Option Addr} {o : Obj} {od : Option Obj} (e : h.get? a = some o) (z : Zc (.ref C) d o) (f : ∃ vs, o.data = .fields vs) (hd : match d with | none => od = none | some dx => ∃ u, h.get? dx = some u ∧ od = some u) : PySem.W.InstAt h a o C od := by
  obtain ⟨oc, odd, oda, osl⟩ := o
  obtain ⟨h1, h2⟩ := z
  obtain ⟨vs, f⟩ := f
  dsimp only at h1 h2 f
  subst h1 h2 f
  cases odd with
  | none =>
    have hd : od = none := hd
    subst hd
    exact ⟨e, rfl, rfl, trivial⟩
  | some dx =>
    obtain ⟨u, e2, rfl⟩ := (hd : ∃ u, h.get? dx = some u ∧ od = some u)
    exact ⟨e, rfl, rfl, e2⟩
/-! ### except x as n: y = n -/
section
variable {X : Cx} {x n y : Str} {cv : Value} {i j : Nat} {body : List Stmt} {np p1 p2 p3 pos pos' : Pos} {tb : WX → TS} {Wout : WX}
/-- what is wished of the body's exception: slot j is n's, slot i is y's -/
def wKeep (K : PySem.W.Frag) (cv : Value) (j i : Nat) (Wout : WX) (D : Ends) : WX := fun cls d σ H =>
  ∃ b, PySem.W.exmOne K cls cv = some b ∧ (b = true → ∀ a, H a = none → D.nx (((σ.set j (some (.ref a))).set i (some (.ref a))).set j none) (upd H a (exq a cls d))) ∧ (b = false → Wout cls d σ H)
theorem ps_keep (hs : X.stack = X.env :: X.outer) (hf : X.env.frame = some X.env.locals) (hex : X.ex = []) (hN : X.N.Nodup) (hj : X.N[j]? = some n) (hln : X.env.kindOf n = some .local) (hv : Vis X.env.scope n) (hd1 : (n == ("__debug__" : Str)) = false) (hd2 : (n == ("__classdict__" : Str)) = false)
    (hi : X.N[i]? = some y) (hly : Loc X.env.scope y) (hfy : X.fn y = true ∨ X.env.scope.names.lookup y = some .local) (hc : Names X x cv) (tk : Takes X Wout)
    (hb : ∀ (W : WX) (pn : List (Addr × Obj)) (xe : Value → Shared → Prop), Takes (X.tr pn xe) W → PassesOwn (model X.prog X.w) X.A X.env xe → PSs (X.tr pn xe) body (tb W)) :
    PS X (.Try body [.ExceptHandler (some (.Name x np)) (some n) [.Assign [.Name y p1] (.Name n p2) p3] pos'] [] [] pos) (fun D σ H => tb (wKeep X.K cv j i Wout D) D σ H) := by
  -- the same road as where the name goes with the clause, but what it held is noted ahead of that
  have road := fun (pins : List (Addr × Obj)) (D : Ends) => hb (wKeep X.K cv j i Wout D) (X.pn ++ pins) (fun e s₁ => wpAny (model X.prog X.w) X.A (noteFrame e X.env) (fun _ s₂ => wpAny (model X.prog X.w) X.A (setFlight e none) (fun _ s₃ =>
    wpAny (model X.prog X.w) X.A (handleBy e X.env [.ExceptHandler (some (.Name x np)) (some n) [.Assign [.Name y p1] (.Name n p2) p3] pos']) (SP X pins D) X.xe s₃) X.xe s₂) X.xe s₁)
  refine ⟨fun pins s σ H D I h => ?_⟩
  have ok := I.ok
  have hfr : X.A.frames = some (X.env :: X.outer) := by rw [ok.frames, hs]
  have frs_in : ∀ z ∈ X.fs, z ∈ frs (X.env :: X.outer) := fun z hm => by
    obtain ⟨e, he, q⟩ := List.mem_filterMap.mp hm
    exact List.mem_filterMap.mpr ⟨e, List.mem_cons_of_mem _ he, q⟩
  have loc_in : X.env.locals ∈ frs (X.env :: X.outer) := List.mem_filterMap.mpr ⟨X.env, List.mem_cons_self, by rw [hf]⟩
  refine wpAny_Try_except (wpAny_mono ((road pins D (fun u s' xx => ?_) PassesOwn.looking).run [] s σ H D (I.toTry _) h) (fun f s1 hsp => ?_) fun _ _ he => he)
  · obtain ⟨a, B, sI, pins', σ', H', cls, d, rfl, J', nb, up, sky, na, os, ag, b, hb1, hyes, hno⟩ := xx
    have J : Inv X pins σ' H' sI := J'.ofTry ok
    rw [hs] at sky
    show wpAny (model X.prog X.w) X.A (noteFrame (.ref a) X.env) _ _ _
    refine Sky.land Zc.steady hfr hf sky fun h3 fl3 up3 => ?_
    have J3 : Inv X pins σ' H' { s' with heap := h3 } := J.landed (by rw [hs] at nb ⊢; exact nb) fl3.1 (up.trans up3) os ag
    obtain ⟨oe3, vs3, he3, hz3, hd3⟩ := fl3.there
    have nfr : a ∉ frs (X.env :: X.outer) := fun hm => by
      obtain ⟨_, o', e', hnf⟩ := fl3.2.2.1.mem hm
      rw [he3] at e'; cases e'
      exact hnf _ hd3
    have nL : a ≠ X.env.locals := fun z => nfr (by rw [z]; exact loc_in)
    have nF : a ∉ X.fs := fun hm => nfr (frs_in a hm)
    have nI : sI.heap.get? a = none := by
      cases q : sI.heap.get? a with
      | none => rfl
      | some o =>
        have := nb a o q (by rw [hs]; exact nfr)
        rw [fl3.2.1] at this; cases this
    have n0 : X.s_0.heap.get? a = none := by
      cases q : X.s_0.heap.get? a with
      | none => rfl
      | some o =>
        obtain ⟨o', q'⟩ := J.base.there a o q (by rw [hex]; simp)
        rw [nI] at q'; cases q'
    have npin : ∀ p ∈ X.pn ++ pins, p.1 ≠ a := fun p hp z => by
      have := (J.pin p hp).1
      rw [z, nI] at this; cases this
    have S3 := J3.suite he3 hd3 na nL nF
    refine wpAny_handleBy_cons (codeAny_handlers_test ?_) (by intro q; cases q)
    have LT : PySem.W.Looks (model X.prog X.w) h3 (typeOf (.ref a)) cls := fun A Q E s k q => wpAny_typeOf_ref (k _ _ he3) (by rw [hz3.1]; exact q)
    have LM := PySem.W.exm_one (M := model X.prog X.w) J3.kIn LT hb1
    have test : ∀ {Q : Value → Shared → Prop} {E : Value → Shared → Prop}, Q cv { s' with heap := h3 } → wpAny (model X.prog X.w) (X.A.mark (some (.ref a))) (eval (.Name x np) X.env) Q E { s' with heap := h3 } := fun {Q E} q => by
      obtain ⟨hg, hdbg, hm | ⟨hm, hbb, hnn⟩⟩ := hc
      · exact ld_glob (X := X.suite a ((a, oe3) :: (X.pn ++ pins))) S3 hg hm q hdbg
      · exact ld_blt (X := X.suite a ((a, oe3) :: (X.pn ++ pins))) S3 hg hm hbb q hnn hdbg
    refine test (LM.here ?_)
    cases b with
    | true =>
      refine codeAny_handlers_suite_as (HandSPX.lands_againZ fl3 fun h4 fl4 up4 => ?_)
      have J4 : Inv X pins σ' H' { s' with heap := h4 } := J.landed (by rw [hs] at nb ⊢; exact nb) fl4.1 ((up.trans up3).trans up4) os ag
      obtain ⟨oe4, vs4, he4, hz4, hd4⟩ := fl4.there
      have S4 := J4.suite he4 hd4 na nL nF
      refine store_ok (X := X.suite a ((a, oe4) :: (X.pn ++ pins))) (v := .ref a) S4 hN hj (.inl hln) rfl (fun s5 S5 => ?_) (.inr hln)
      have hjl : j < σ'.length := by rw [J.len]; exact (List.getElem?_eq_some_iff.mp hj).1
      have su := pss_one (ps_set (X := X.suite a ((a, oe4) :: (X.pn ++ pins))) (i := i) (pos' := p1) (pos := p3) hN hi hly (pe_var (X := X.suite a ((a, oe4) :: (X.pn ++ pins))) (i := j) (pos := p2) hj hv hd1 hd2) rfl hfy)
      refine wpAny_mono (su.run [] s5 (σ'.set j (some (.ref a))) H' { nx := fun σ6 H6 => σ6 = (σ'.set j (some (.ref a))).set i (some (.ref a)) ∧ H6 = H', rt := fun _ _ => False, bk := fun _ _ => False, ct := fun _ _ => False } S5 ⟨.ref a, List.getElem?_set_self hjl, rfl, rfl⟩) (fun f s6 hsp => ?_) (fun _ _ z => False.elim z)
      cases f with
      | next =>
        obtain ⟨σ6, H6, S6, rfl, rfl⟩ := hsp
        obtain ⟨g1, g2, g3, g4, g5⟩ := S6.pin (a, oe4) (by simp)
        have I6 := note (S6.unsuite ok) n0 g1 g2 nL g5 npin ⟨oe4, g1, hz4, vs4, hd4⟩ exq_st
        exact gone_ok I6 hN hj hln fun s7 J7 => ⟨_, _, J7, hyes rfl a na⟩
      | brk => exact False.elim (by obtain ⟨_, _, _, z⟩ := hsp; exact z)
      | cont => exact False.elim (by obtain ⟨_, _, _, z⟩ := hsp; exact z)
      | ret u => exact False.elim (by obtain ⟨_, _, _, _, _, z⟩ := hsp; exact z)
    | false =>
      show wpAny _ X.A (handleBy (.ref a) X.env []) _ _ _
      refine wpAny_handleBy_nil ?_
      obtain ⟨k1, k2, k3, oe, vs, T, oT, ts', he, hz, hd, h1, hr⟩ := id fl3
      unfold PySem.passOn
      refine wpAny_bind (wpAny_field he hd h1 ?_)
      rw [if_neg (show ¬ ((Value.ref T == Value.none) = true) from by simp)]
      have last : wpAny (model X.prog X.w) X.A (setFlight (.ref a) X.env.frame) (fun _ s4 => wpAny (model X.prog X.w) X.A (throw (.ref a) : Sem Flow) (SP X pins D) X.xe s4) X.xe { s' with heap := h3 } := by
        rw [hf]
        refine HandSPX.setFlight_upZ fl3 fun h4 hh4 up4 => wpAny_throw (tk _ _ ⟨a, B, sI, pins, σ', H', cls, d, rfl, J, nb, (up.trans up3).trans up4, .inr (.inr (by rw [hs]; exact hh4)), na, os, ag, hno rfl⟩)
      first
        | exact wpAny_bind (wpAny_pure (wpAny_bind last))
        | exact wpAny_bind last
  · cases f with
    | next =>
      obtain ⟨σ', H', J', q⟩ := hsp
      exact wpAny_execs_nil ⟨σ', H', J'.ofTry ok, q⟩
    | brk =>
      obtain ⟨σ', H', J', q⟩ := hsp
      exact ⟨σ', H', J'.ofTry ok, q⟩
    | cont =>
      obtain ⟨σ', H', J', q⟩ := hsp
      exact ⟨σ', H', J'.ofTry ok, q⟩
    | ret u =>
      obtain ⟨v, σ', H', J', r, q⟩ := hsp
      exact ⟨v, σ', H', J'.ofTry ok, r, q⟩
end
/-! ### isinstance(e, C), e.f of an exception that is kept -/
def DictAt (H : Hp) (d : Option Addr) : Prop := d = none ∨ ∃ dx fs, d = some dx ∧ H dx = some (.xd fs)
theorem inst_at {X : Cx} {pins : List (Addr × Obj)} {σ : L2.St} {H : Hp} {s : Shared} {a D : Addr} {d : Option Addr} (I : Inv X pins σ H s) (h : H a = some (exq a (.ref D) d)) (hd : DictAt H d) : ∃ o od, PySem.W.InstAt s.heap a o D od := by
  obtain ⟨o, e, z, f⟩ := exq_at I h
  rcases hd with rfl | ⟨dx, fs, rfl, e2⟩
  · exact ⟨o, none, exq_inst (d := none) e z f rfl⟩
  · have x : ObjOk X.prog X.w H s.heap dx (.xd fs) := I.hok dx _ e2
    obtain ⟨mA, hns, _⟩ := x
    obtain ⟨od, ho, _⟩ := lookIn_ns hns
    exact ⟨o, some od, exq_inst (d := some dx) e z f ⟨od, ho, rfl⟩⟩
def rIsX (K : PySem.W.Frag) : List V → Hp → VK → Prop := fun xs H Q => ∃ (a D : Addr) (d : Option Addr) (v : V) (cv : Value) (b : Bool), xs = [.ref a, v] ∧ H a = some (exq a (.ref D) d) ∧ DictAt H d ∧ ExcC K D ∧ (∀ u, RelV v u → u = cv) ∧ PySem.W.kitOne K (.ref D) cv = some b ∧ Q (.bl b) H
theorem call_isX {X : Cx} : CallR X (.builtin "isinstance") (rIsX X.K) := by
  intro pins s σ H xs us Q I r h
  obtain ⟨a, D, d, v, cv, b, rfl, ha, hd, C, hcv, e, q⟩ := h
  cases r with
  | cons rx rr =>
    cases rr with
    | cons rt rr =>
      cases rr
      cases rx
      have ec := hcv _ rt
      subst ec
      obtain ⟨o, od, J⟩ := inst_at I ha hd
      have hcl : (PySem.W.clsIn X.K D).isSome = true := by
        obtain ⟨cd, hc, _⟩ := PySem.W.any_some C.hd
        rw [hc]; rfl
      exact PySem.W.kia_one (PySem.W.kitx_exc hcl C.hg C.hk C.hs C.ha C.hn C.ht C.hm) I.kIn J e (fun z => nomatch z) fun tk => ⟨.bl b, H, I.kept (t' := tk) fun _ _ z => z, rfl, q⟩
section
variable {X : Cx} {c : Cfg} {Wx : WX} {ea : Env → St → R W} {a : Expr} {pos : Pos}
theorem XdAt.dict {ρ : Rho} {H : Hp} {k : Nat} {d : Option Addr} {xs : List V} (h : XdAt c ρ H k d xs) : DictAt H d := by
  rcases h with ⟨_, h⟩ | ⟨x, dx, f, _, h1, _, h2, _⟩
  · exact .inl h
  · exact .inr ⟨dx, _, h1, h2⟩
/-! fields -/
/-- fields have different names -/
def FldOk (nm : Nm) : Prop := ∀ (i j : Nat) (x : Str), nm.fld[i]? = some x → nm.fld[j]? = some x → i = j
theorem RelF.look {ρ : Rho} {H : Hp} {g : Nat} {f : Str} {w : W} (ok : FldOk c.nm) (hf : c.nm.fld[g]? = some f) : ∀ {fs : List (Nat × W)} {gs : List (Str × V)}, RelF c ρ H fs gs → fs.lookup g = some w → ∃ v, gs.lookup f = some v ∧ RelW c ρ H w v
  | [], _, r, h => by cases h
  | p :: fs, _, r, h => by
    cases r with
    | @cons _ q _ qs r1 r2 =>
      obtain ⟨q1, q2⟩ := q
      obtain ⟨p1, p2⟩ := p
      by_cases e : g = p1
      · subst e
        have e1 := r1.1
        rw [hf] at e1
        cases e1
        rw [List.lookup_cons, beq_self_eq_true] at h
        cases h
        exact ⟨q2, by rw [List.lookup_cons, beq_self_eq_true], r1.2⟩
      · have ne : (g == p1) = false := beq_eq_false_iff_ne.mpr e
        rw [List.lookup_cons, ne] at h
        obtain ⟨v, e2, rv⟩ := RelF.look ok hf r2 h
        have ne2 : (f == q1) = false := by
          rw [beq_eq_false_iff_ne]
          intro e3
          subst e3
          exact e (ok _ _ _ hf r1.1)
        exact ⟨v, by rw [List.lookup_cons, ne2]; exact e2, rv⟩
theorem RelF.put {ρ : Rho} {H : Hp} {g : Nat} {f : Str} {w : W} {v : V} (ok : FldOk c.nm) (hf : c.nm.fld[g]? = some f) (rv : RelW c ρ H w v) : ∀ {fs : List (Nat × W)} {gs : List (Str × V)}, RelF c ρ H fs gs → RelF c ρ H (putFld g w fs) (putF f v gs)
  | [], _, r => by cases r; exact .cons ⟨hf, rv⟩ .nil
  | p :: fs, _, r => by
    cases r with
    | @cons _ q _ qs r1 r2 =>
      obtain ⟨q1, q2⟩ := q
      obtain ⟨p1, p2⟩ := p
      unfold putFld putF
      by_cases e : p1 = g
      · subst e
        have e1 := r1.1
        rw [hf] at e1
        cases e1
        rw [if_pos rfl]
        first
          | (rw [if_pos rfl]; exact .cons ⟨hf, rv⟩ r2)
          | (rw [beq_self_eq_true]; exact .cons ⟨hf, rv⟩ r2)
          | (simp only [if_true, beq_self_eq_true]; exact .cons ⟨hf, rv⟩ r2)
      · have ne2 : q1 ≠ f := fun e3 => by subst e3; exact e (ok _ _ _ r1.1 hf)
        rw [if_neg e]
        first
          | (rw [if_neg ne2]; exact .cons r1 (RelF.put ok hf rv r2))
          | (rw [if_neg (Ne.symm ne2)]; exact .cons r1 (RelF.put ok hf rv r2))
          | (rw [beq_eq_false_iff_ne.mpr ne2]; exact .cons r1 (RelF.put ok hf rv r2))
/-- what is told of the classes -/
structure GlobX (c : Cfg) (K : PySem.W.Frag) : Prop where
  ist : ∀ k m b, c.nm.ist.lookup (k, m) = some b → ExcC K (c.A k) ∧ PySem.W.kitOne K (.ref (c.A k)) (.ref (c.A m)) = some b
  isv : ∀ k ∈ c.nm.isv, ExcC K (c.A k) ∧ PySem.W.kitOne K (.ref (c.A k)) (.type "ValueError") = some true
  xf : ∀ k g, c.nm.exf.lookup k = some g → XfC K (c.A k) ∧ ∀ f, c.nm.fld[g]? = some f → PySem.W.findIn K (.ref (c.A k)) f = some none
  own : ∀ k g, c.nm.own.lookup k = some g → Cls K (c.A k) ∧ ∀ (i : Nat) (f : Str), c.nm.fld[i]? = some f → NoAttr K (c.A k) f
  fok : FldOk c.nm
/-- an answer of isTy that is an exception's -/
theorem isTy_exn {st : St} {w : W} {t : Ty} {b : Bool} (ht : (tyN t).isNone = true) (h : isTy st w t = some b) : ∃ k l, w = .exn k l := by
  cases w with
  | exn k l => exact ⟨k, l, rfl⟩
  | ref n =>
    unfold isTy at h
    cases t <;> first | (cases ht; done) | (dsimp only at h; split at h <;> cases h; done) | (split at h <;> cases h; done)
  | dct _ _ => cases t <;> cases h
  | _ => cases t <;> first | (cases ht; done) | (cases h; done)
theorem E_isx {p p' : Pos} {t : Ty} {x : Str} {cv : Value} {v : V} (hK : X.K = c.K) (hg : Gl X "isinstance") (hm : X.mg "isinstance" = none) (ht : (tyN t).isNone = true) (hs : notStar a = true) (ha : PE X a (tE c Wx ea)) (hn : PE X (.Name x p') (tC v)) (hv : ∀ u, RelV v u → u = cv)
    (fact : ∀ k b st l, isTy st (.exn k l) t = some b → ExcC X.K (c.A k) ∧ PySem.W.kitOne X.K (.ref (c.A k)) cv = some b) :
    PE X (.Call (.Name "isinstance" p) [a, .Name x p'] [] pos) (tE c Wx fun e s => (ea e s).bind fun z s => okB s (isTys s z [t])) := by
  have base := pe_callB (pos := pos) (p := p) call_isX hg hm (by decide +kernel) (pa_cons ha (pa_cons hn pa_nil (star_cons rfl)) (star_cons hs)) (by decide) (by decide) (star_cons hs) rfl
  refine PE.weak base fun σ H Q h => ?_
  obtain ⟨ρ, st, env, r, re, h⟩ := h
  refine ⟨ρ, st, env, r, re, h.bind.imp fun w st1 ρ1 H1 e x1 r1 h y rv => ?_⟩
  obtain ⟨b, e2, q⟩ := okB_at (h.nox (nox_okB _ _)) r1
  have e2 : isTy st1 w t = some b := e2
  obtain ⟨k, l, rfl⟩ := isTy_exn ht e2
  obtain ⟨f1, f2⟩ := fact k b st1 l e2
  simp only [RelW] at rv
  obtain ⟨b', d, xs, rfl, h1, _, h3, _⟩ := rv
  exact ⟨b', c.A k, d, v, cv, b, rfl, h1, h3.dict, f1, hv, f2, q⟩
theorem E_fldx {q : Pos} {y fn : Str} {g : Nat} {ks : List Nat} (hK : X.K = c.K) (gx : GlobX c X.K) (he : PE X (.Name y q) (tE c Wx ea)) (hf : c.nm.fld[g]? = some fn) (hk : ∀ k ∈ ks, c.nm.exf.lookup k = some g) :
    PE X (.Attribute (.Name y q) fn pos) (tE c Wx fun e s => (ea e s).bind fun z s => fldW s z g ks) := by
  refine ⟨fun pins s σ H Q I h => ?_⟩
  obtain ⟨ρ, st, env, r, re, h⟩ := h
  refine attr_of (by rfl) (thn (he.run pins s σ H (fun x H1 => ∃ ρ1 st1 w, Rel c ρ1 H1 st1 ∧ RelW c ρ1 H1 w x ∧ Post c (fun k d H' => Wx k d σ H') ρ1 H1 (fldW st1 w g ks) (QV c Q)) I ⟨ρ, st, env, r, re, h.bind.imp fun w st1 ρ1 H1 _ _ r1 h y rv => ⟨ρ1, st1, w, r1, rv, h⟩⟩) fun u s1 hh => ?_)
  obtain ⟨x, H1, I1, rx, ρ1, st1, w, r1, rv, h⟩ := hh
  cases w with
  | exn k l =>
    match l, rv, h with
    | [], _, h => exact h.elim
    | [w], rv, h =>
      have h : Post c (fun k d H' => Wx k d σ H') ρ1 H1 (if k ∈ ks then R.ok w st1 else .bad) (QV c Q) := h
      split at h
      · rename_i hm
        simp only [RelW] at rv
        obtain ⟨a, d, xs, rfl, h1, _, h3, rl⟩ := rv
        obtain rfl : u = Value.ref a := rx
        obtain ⟨z, rfl, rz⟩ := relL_one rl
        rcases h3 with ⟨h3, _⟩ | ⟨z', dx, f, e1, rfl, ⟨g', e3, e4⟩, e5, e6⟩
        · cases h3
        · cases e1
          rw [hk k hm] at e3
          cases e3
          rw [hf] at e4
          cases e4
          obtain ⟨t1, t2⟩ := gx.xf k g (hk k hm)
          obtain ⟨o, e, zc, fv⟩ := exq_at I1 h1
          have hx : ObjOk X.prog X.w H1 s1.heap dx (.xd [(fn, z)]) := I1.hok dx _ e5
          obtain ⟨mA, hns, hr⟩ := hx
          obtain ⟨od, ho, hl⟩ := lookIn_ns hns
          have J := exq_inst (d := some dx) e zc fv ⟨od, ho, rfl⟩
          obtain ⟨u, hu, ru⟩ := RelO.some_of (v := z) (o := mA fn) (by
            have := hr fn
            simpa [List.lookup] using this)
          exact HandSPX.exc_get I1.kIn J t1.ga t1.gg t1.exC (PySem.W.findObj_own t1.hdC (t2 fn hf) rfl (by rw [hl, hu])) (handed_of ru) ⟨z, H1, I1.tok _, ru, Post.here h r1 z rz⟩
      · exact h.elim
    | _ :: _ :: _, _, h => exact h.elim
  | ref n =>
    simp only [RelW] at rv
    obtain ⟨a, e1, rfl⟩ := rv
    obtain rfl : u = Value.ref a := rx
    have h : Post c (fun k d H' => Wx k d σ H') ρ1 H1 (match st1[n]? with
      | some (.ins _ fs) => okO st1 (fs.lookup g)
      | _ => .bad) (QV c Q) := h
    split at h
    · rename_i k fs e
      obtain ⟨w, e2, q⟩ := okO_at (h.nox (nox_okO _ _)) r1
      obtain ⟨a', e3, ho, dx, gs, e4, rf⟩ := r1.at_n e
      rw [e1] at e3; cases e3
      obtain ⟨i, ei⟩ := Option.isSome_iff_exists.mp ho
      obtain ⟨C, na⟩ := gx.own k i ei
      obtain ⟨v, e5, rv⟩ := RelF.look gx.fok hf rf e2
      exact getattr_ok I1 e4 C (na g fn hf) e5 fun u' s2 I2 ru => ⟨v, H1, I2, ru, q v rv⟩
    · exact h.elim
  | _ => exact h.elim
end

/-! ### exceptions that are made and kept -/
section
variable {X : Cx} {pos : Pos}
/-- an own exception of the module that is made with nothing -/
structure Exc0 (K : PySem.W.Frag) (C : Addr) : Prop where
  ex : PySem.W.excIn K C [.type "ValueError", .type "Exception", .type "BaseException", .type "object"] "ValueError.__new__" = true
  kp : PySem.W.keepIn K (.ref C) = true
  sub : PySem.W.subIn K (.ref C) (.type "BaseException") = some true
  ty : PySem.W.typeIn K (.ref C) = some (.type "type")
theorem pmk_own0 {C : Addr} {x : Str} {p : Pos} (E : Exc0 X.K C) (gC : X.mg x = some (.ref C)) (hg : Gl X x) (hdb : (x == ("__debug__" : Str)) = false) : PMk X (.Call (.Name x p) [] [] pos) (fun _ H Q => Q (.ref C) none H) := by
  intro pins s σ H Q I h
  refine wpAny_Call_Name_kw (ld_glob I hg gC ?_ hdb)
  refine PySem.W.callWith_K0 I.kIn E.kp ?_
  show wpAny _ _ (call (.ref C) []) _ _ _
  obtain ⟨bm, N, nm, qn, bs, hdct, sn, sub, ab, col, dd, k0, k1, k2, k3, k5, mN, hC, hN, hni, T⟩ := exc_obj I.kIn E.ex
  obtain ⟨hp, g, dr, tk, os⟩ := s
  exact wpAny_call_exc_subT PySem.F.excBase_ValueError T hC hN hni (fun h' e hm => mk_of I hm (raises_own E.sub E.ty) h (I.hok.gone hm.new)) (Nat.zero_le _)
end
/-! an own exception that keeps what it is made with -/
def spI (f : Str) (C : Addr) : Sp := fun vs H Q E => ∃ a y, vs = [.ref a, y] ∧ H a = some (exo a C none) ∧ ∀ dx, H dx = none → dx ≠ a → Q .non (upd (upd H dx (exd dx [(f, y)])) a (exo a C (some dx)))
structure Exc1 (P : Program) (w : World) (K : PySem.W.Frag) (mg : Str → Option Value) (base : Heap) (C : Addr) (f : Str) : Prop where
  T : OexC K C
  hno : PySem.W.findIn K (.ref C) f = some none
  xf : XfC K C
  fn : ∃ (fI : Addr) (fd : FuncData) (ps : List Str), PySem.W.findIn K (.ref C) "__init__" = some (some (.ref fI)) ∧ PySem.W.typeIn K (.ref fI) = some (.type "function") ∧ FnOk P w K mg base (L2.CX P w) 1 fI fd ps (spI f C) ∧ Binds K fd ps []
theorem pass_f {X : Cx} {P : Program} {w : World} : Passes (L2.CX P w) X (fun _ _ _ => False) := fun pins σ H s e s' I h => by
  obtain ⟨_, _, _, _, _, _, _, _, _, _, _, _, z⟩ := h
  exact z.elim

section
variable {X : Cx} {c : Cfg} {Wx : WX} {ea : Env → St → R W} {a : Expr} {pos : Pos} {k : Nat}
/-- what makes an exception, as a value -/
theorem pe_made {e : Expr} {t : L2.St → Hp → XK → Prop} (hm : PMk X e t) : PE X e (fun σ H Q => t σ H fun cls d H' => ∀ a, H' a = none → Q (.ref a) (upd H' a (exq a cls d))) := by
  refine ⟨fun pins s σ H Q I h => wpAny_mono (hm pins s σ H _ I h) (fun u s1 hu => ?_) fun _ _ x => x⟩
  obtain ⟨a, oe, vs, sI, H', cls, d, rfl, J, kp, ha0, ha, hz, hd, h1, hn, os, ag, hr, q⟩ := hu
  have I1 := J.call (ch := []) (h' := s1.heap) (g' := s1.gens) (t' := s1.toks) (d' := s1.drawn) (H' := upd H' a (exq a cls d)) (Un.laidN kp ha0 hn) (J.hok.laidN kp hn ⟨⟨oe, ha, hz, vs, hd⟩, ⟨oe, ha⟩, exq_st⟩) ag (fun _ z => nomatch z)
  obtain ⟨h1', g1, d1, t1, o1⟩ := s1
  obtain ⟨h2, g2, d2, t2, o2⟩ := sI
  cases os
  exact ⟨.ref a, upd H' a (exq a cls d), I1, rfl, q a hn⟩
theorem E_mkx0 {x : Str} {p : Pos} {n : Nat} (E : Exc0 X.K (c.A n)) (gC : X.mg x = some (.ref (c.A n))) (hg : Gl X x) (hdb : (x == ("__debug__" : Str)) = false) :
    PE X (.Call (.Name x p) [] [] pos) (tE c Wx fun _ s => .ok (.exn n []) s) :=
  PE.weak (pe_made (pmk_own0 E gC hg hdb)) fun σ H Q q => by
    obtain ⟨ρ, st, env, r, re, q⟩ := q
    intro b hb
    refine (show Post c _ ρ H (.ok (.exn n []) st) (QV c Q) from q) ρ _ (Ext.fresh hb) (r.fresh hb) (.ref b) ?_
    simp only [RelW]
    exact ⟨b, none, [], rfl, upd_same, r.out hb, .inl ⟨rfl, rfl⟩, RelL.nil⟩
theorem E_mkx1 {x : Str} {p : Pos} {n g : Nat} {f : Str} (hc : X.calm = true) (room : Room k X.A) (k2 : 2 ≤ k) (eg : c.nm.exf.lookup n = some g) (ef : c.nm.fld[g]? = some f) (E : Exc1 X.prog X.w X.K X.mg X.base (c.A n) f) (gC : X.mg x = some (.ref (c.A n))) (hg : Gl X x) (hdb : (x == ("__debug__" : Str)) = false)
    (hs : notStar a = true) (ha : PE X a (tE c Wx ea)) :
    PE X (.Call (.Name x p) [a] [] pos) (tE c Wx fun e s => (ea e s).bind fun w s => .ok (.exn n [w]) s) := by
  obtain ⟨fI, fd, ps, i1, i2, F1, hb⟩ := E.fn
  have hA : PA X [a] (tEs c Wx fun e s => (ea e s).bind fun w s => .ok [w] s) := A_cons hs ha A_nil
  refine PE.weak (pe_made (pmk_oex E.T i1 i2 F1 (room.mono k2) hb .nil pass_f hg gC hA hdb (star_cons hs) rfl)) fun σ H Q q => ?_
  obtain ⟨ρ, st, env, r, re, q⟩ := q
  refine ⟨ρ, st, env, r, re, ?_⟩
  dsimp only at q
  have q : Post c (fun k d H' => Wx k d σ H') ρ H (((ea env st).bind fun w s => R.ok [w] s).bind fun ws s => (match ws with
    | [w] => R.ok (.exn n [w]) s
    | _ => .bad)) (QV c Q) := by
    cases e1 : ea env st with
    | ok w s2 => rw [e1] at q; exact q
    | exc _ _ _ => rw [e1] at q; exact q
    | bad => rw [e1] at q; exact q
  refine q.bind.imp fun ws st' ρ' H' er x' r' q vs rv => ?_
  obtain ⟨w, rfl⟩ : ∃ w, ws = [w] := by
    cases e1 : ea env st with
    | ok w s2 => rw [e1] at er; cases er; exact ⟨w, rfl⟩
    | exc _ _ _ => rw [e1] at er; cases er
    | bad => rw [e1] at er; cases er
  simp only [RelL] at rv
  obtain ⟨y, ys, rfl, r1, rfl⟩ := rv
  refine ⟨by simp, fun b hb => ⟨b, y, rfl, upd_same, fun dx hd hn => ⟨rfl, dx, [(f, y)], upd_same, ?_, ?_, ?_⟩⟩⟩
  · rw [upd_ne hn, upd_same]
  · rw [upd_ne hn] at hd; exact hd
  · rw [upd_ne hn] at hd
    have eH : upd (del (upd (upd (upd H' b (exo b (c.A n) none)) dx (exd dx [(f, y)])) b (exo b (c.A n) (some dx))) b) dx (.xd [(f, y)]) = upd H' dx (.xd [(f, y)]) := by
      funext z
      by_cases h1 : z = dx
      · subst h1; rw [upd_same, upd_same]
      · rw [upd_ne h1, upd_ne h1]
        by_cases h2 : z = b
        · subst h2; rw [del_same, hb]
        · rw [del_ne h2, upd_ne h2, upd_ne h1, upd_ne h2]
    rw [eH]
    intro o ho
    have no : dx ≠ o := fun z => by subst z; rw [upd_same] at ho; cases ho
    have x2 : Ext ρ' H' ρ' (upd (upd H' dx (.xd [(f, y)])) o (exq o (.ref (c.A n)) (some dx))) := (Ext.fresh hd).trans (Ext.fresh ho)
    refine (show Post c _ ρ' H' (.ok (.exn n [w]) st') (QV c Q) from q) ρ' _ x2 ((r'.fresh hd).fresh ho) (.ref o) ?_
    simp only [RelW]
    refine ⟨o, some dx, [y], rfl, upd_same, (r'.fresh hd).out ho, .inr ⟨y, dx, f, rfl, rfl, ⟨g, eg, ef⟩, ?_, r'.out hd⟩, RelL.cons (r1.ext x2) RelL.nil⟩
    rw [upd_ne no, upd_same]
end
end Px

set_option linter.all false
set_option maxRecDepth 100000
/-! Px7: the context, targets, comprehensions. -/
namespace Px
open PySem PySem.Spec PyProof.Rows L2

/-- the context as the checker takes it -/
structure Good (c : Cfg) (N : List Str) (X : Cx) (sc : Scope) (k : Nat) : Prop where
  hK : X.K = c.K
  hN : X.N = N
  nd : N.Nodup
  calm : X.calm = true
  room : Room k X.A
  vis : ∀ x, visB sc x = true → Vis X.env.scope x
  loc : ∀ x, locB sc x = true → Loc X.env.scope x ∧ (X.fn x = true ∨ X.env.scope.names.lookup x = some .local)
  gl : ∀ x, glB sc x = true → Gl X x
  cap : ∀ x, (sc.names.lookup x = some .cell ∨ sc.names.lookup x = some .free) → X.env.scope.names.lookup x = some .cell ∨ X.env.scope.names.lookup x = some .free
  pw : Pwx X c

theorem nameAt_of {N : List Str} {i : Nat} {x : Str} (h : nameAt N i x = true) : N[i]? = some x := of_decide_eq_true h

/-! ### targets -/
def gNs : List Nat → TGs
  | [] => gNil
  | i :: r => gCons (gName i) (gNs r)
section
variable {X : Cx} {c : Cfg} {N : List Str} {sc : Scope} {k : Nat}
theorem each_name {x : Str} {p : Pos} {es : List Expr} {env : PySem.Env} : assignEach (.Name x p :: es) env = (false, assign (.Name x p) env) :: assignEach es env := rfl
theorem G_names (G : Good c N X sc k) : ∀ {es : List Expr} {is : List Nat}, tgB sc N es is = true → PGs X es (gNs is) ∧ (assignEach es X.env).length = is.length ∧ (assignEach es X.env).findIdx? (·.1) = none
  | [], [], _ => ⟨pgs_nil, rfl, rfl⟩
  | [], _ :: _, h => by cases h
  | e :: _, [], h => by cases e <;> cases h
  | e :: es, i :: is, h => by
    cases e with
    | Name x p =>
      simp only [tgB, Bool.and_eq_true] at h
      obtain ⟨h1, h2, h3⟩ := G_names G h.2
      obtain ⟨l1, l2⟩ := G.loc x h.1.1
      refine ⟨pgs_cons (pg_name (by rw [G.hN]; exact G.nd) (by rw [G.hN]; exact nameAt_of h.1.2) l1 l2) h1 rfl, ?_, ?_⟩
      · rw [each_name, List.length_cons, List.length_cons, h2]
      · rw [each_name, List.findIdx?_cons]
        show (Option.map _ ((assignEach es X.env).findIdx? _)) = none
        rw [h3]; rfl
    | _ => cases h
/-- names from the left -/
def setSt : List Nat → List V → L2.St → Option L2.St
  | [], [], σ => some σ
  | i :: is, v :: vs, σ => setSt is vs (σ.set i (some v))
  | _, _, _ => none
theorem gNs_of : ∀ {is : List Nat} {vs : List V} {σ σ' : L2.St} {H : Hp} {Q : L2.St → Hp → Prop}, setSt is vs σ = some σ' → Q σ' H → gNs is vs σ H Q
  | [], [], _, _, _, _, e, q => by cases e; exact ⟨rfl, q⟩
  | [], _ :: _, _, _, _, _, e, _ => by cases e
  | _ :: _, [], _, _, _, _, e, _ => by cases e
  | i :: is, v :: vs, _, _, _, _, e, q => ⟨v, vs, rfl, gNs_of (is := is) (vs := vs) e q⟩
theorem setSt_len : ∀ {is : List Nat} {vs : List V} {σ σ' : L2.St}, setSt is vs σ = some σ' → σ'.length = σ.length ∧ ∀ j, j ∉ is → σ'[j]? = σ[j]?
  | [], [], _, _, e => by cases e; exact ⟨rfl, fun _ _ => rfl⟩
  | [], _ :: _, _, _, e => by cases e
  | _ :: _, [], _, _, e => by cases e
  | i :: is, v :: vs, σ, _, e => by
    obtain ⟨h1, h2⟩ := setSt_len (is := is) (vs := vs) e
    refine ⟨by rw [h1, List.length_set], fun j hj => ?_⟩
    simp only [List.mem_cons, not_or] at hj
    rw [h2 j hj.2, List.getElem?_set_ne (Ne.symm hj.1)]
theorem setMany_rel {ρ : Rho} {H : Hp} : ∀ {is : List Nat} {ws : List W} {vs : List V} {env env' : Env} {σ : L2.St}, setMany is ws env = some env' → RelL c ρ H ws vs → REnv c ρ H env σ → ∃ σ', setSt is vs σ = some σ' ∧ REnv c ρ H env' σ'
  | [], [], vs, _, _, σ, e, r, re => by
    simp only [RelL] at r; subst r
    cases e
    exact ⟨σ, rfl, re⟩
  | [], _ :: _, _, _, _, _, e, _, _ => by cases e
  | _ :: _, [], _, _, _, _, e, _, _ => by cases e
  | i :: is, w :: ws, vs, env, _, σ, e, r, re => by
    simp only [RelL] at r
    obtain ⟨v, vs, rfl, r1, r2⟩ := r
    exact setMany_rel (is := is) (ws := ws) e r2 (re.set i r1)
def idx : Tg → List Nat
  | .one i => [i]
  | .many is => is
/-- behind a target's assignment -/
def tG (c : Cfg) (tg : Tg) : TG := fun v σ H Q => ∃ ρ st env w e', Rel c ρ H st ∧ REnv c ρ H env σ ∧ RelW c ρ H w v ∧ setTg tg w env = some e' ∧ ∀ σ', REnv c ρ H e' σ' → σ'.length = σ.length → (∀ j, j ∉ idx tg → σ'[j]? = σ[j]?) → Q σ' H
theorem PG.weak {X : Cx} {e : Expr} {t t' : TG} (h : PG X e t) (k : ∀ v σ H Q, t' v σ H Q → t v σ H Q) : PG X e t' := ⟨fun pins s σ H v u Q I r q => h.run pins s σ H v u Q I r (k v σ H Q q)⟩
theorem G_targ (G : Good c N X sc k) {e : Expr} {tg : Tg} (h : targB sc N e tg = true) : PG X e (tG c tg) := by
  cases tg with
  | one i =>
    cases e with
    | Name x p =>
      simp only [targB, Bool.and_eq_true] at h
      obtain ⟨l1, l2⟩ := G.loc x h.1
      refine PG.weak (pg_name (i := i) (by rw [G.hN]; exact G.nd) (by rw [G.hN]; exact nameAt_of h.2) l1 l2) fun v σ H Q q => ?_
      obtain ⟨ρ, st, env, w, e', r, re, rw', es, q⟩ := q
      cases es
      refine q _ (re.set i rw') (by rw [List.length_set]) fun j hj => ?_
      rw [List.getElem?_set_ne]
      simpa [idx] using Ne.symm (by simpa [idx] using hj)
    | _ => cases h
  | many is =>
    cases e with
    | Tuple es n p =>
      simp only [targB] at h
      obtain ⟨h1, h2, h3⟩ := G_names G h
      refine PG.weak (pg_tup (n := is.length) G.calm h1 h2 h3) fun v σ H Q q => ?_
      obtain ⟨ρ, st, env, w, e', r, re, rw', es, q⟩ := q
      cases w with
      | tup l =>
        simp only [RelW] at rw'
        obtain ⟨a, xs, rfl, t, rs⟩ := rw'
        obtain ⟨σ', e1, re'⟩ := setMany_rel (is := is) (ws := l) es rs re
        obtain ⟨e2, e3⟩ := setSt_len e1
        have hl : xs.length = is.length := by
          have : ∀ {is : List Nat} {vs : List V} {σ σ' : L2.St}, setSt is vs σ = some σ' → vs.length = is.length := by
            intro is
            induction is with
            | nil => intro vs σ σ' e; cases vs <;> first | rfl | cases e
            | cons i is ih => intro vs σ σ' e; cases vs with
              | nil => cases e
              | cons v vs => rw [List.length_cons, List.length_cons, ih e]
          exact this e1
        exact ⟨a, xs, rfl, by rw [G.hK]; exact t.sq, hl, gNs_of e1 (q σ' re' e2 e3)⟩
      | _ => cases es
    | _ => cases h
end
/-! ### wiped slots -/
theorem wipe_in {σ : L2.St} {j : Nat} : ∀ {vs : List Nat}, j ∈ vs → j < σ.length → (wipe σ vs)[j]? = some none
  | v :: vs, h, hl => by
    unfold wipe
    by_cases e : v = j
    · subst e
      rw [List.getElem?_set_self (by rw [wipe_length]; exact hl)]
    · rw [List.getElem?_set_ne e]
      exact wipe_in ((List.mem_cons.mp h).resolve_left (Ne.symm e)) hl
theorem wipe_out' {σ : L2.St} {j : Nat} : ∀ {vs : List Nat}, j ∉ vs → (wipe σ vs)[j]? = σ[j]?
  | [], _ => rfl
  | v :: vs, h => by
    simp only [List.mem_cons, not_or] at h
    unfold wipe
    rw [List.getElem?_set_ne (Ne.symm h.1)]
    exact wipe_out' h.2
theorem wipe_same {σ σ' : L2.St} {vs : List Nat} (hl : σ'.length = σ.length) (h : ∀ j, j ∉ vs → σ'[j]? = σ[j]?) : wipe σ' vs = wipe σ vs := by
  refine List.ext_getElem? fun j => ?_
  by_cases hj : j ∈ vs
  · by_cases hl' : j < σ.length
    · rw [wipe_in hj hl', wipe_in hj (by rw [hl]; exact hl')]
    · rw [List.getElem?_eq_none (by rw [wipe_length]; omega), List.getElem?_eq_none (by rw [wipe_length]; omega)]
  · rw [wipe_out' hj, wipe_out' hj]
    exact h j hj
theorem wipe_wipe {σ : L2.St} {vs : List Nat} : wipe (wipe σ vs) vs = wipe σ vs := wipe_same (wipe_length σ vs) fun j hj => wipe_out' hj
/-- stale slots do not matter where the target stores all of them -/
theorem setMany_over : ∀ {is : List Nat} {ws : List W} {e1 e2 e' : Env}, setMany is ws e1 = some e' → e1.length = e2.length → (∀ j, j ∉ is → e1[j]? = e2[j]?) → setMany is ws e2 = some e'
  | [], [], e1, e2, e', h, hl, hs => by
    cases h
    have : e1 = e2 := List.ext_getElem? fun j => hs j (by simp)
    subst this
    rfl
  | [], _ :: _, _, _, _, h, _, _ => by cases h
  | _ :: _, [], _, _, _, h, _, _ => by cases h
  | i :: is, w :: ws, e1, e2, e', h, hl, hs => by
    refine setMany_over (is := is) (ws := ws) h (by rw [List.length_set, List.length_set]; exact hl) fun j hj => ?_
    by_cases e : i = j
    · subst e
      by_cases h1 : i < e1.length
      · rw [List.getElem?_set_self h1, List.getElem?_set_self (by rw [← hl]; exact h1)]
      · rw [List.getElem?_eq_none (by rw [List.length_set]; omega), List.getElem?_eq_none (by rw [List.length_set]; omega)]
    · rw [List.getElem?_set_ne e, List.getElem?_set_ne e]
      exact hs j (by simp only [List.mem_cons, not_or]; exact ⟨Ne.symm e, hj⟩)
theorem setTg_over {tg : Tg} {w : W} {e1 e2 e' : Env} (h : setTg tg w e1 = some e') (hl : e1.length = e2.length) (hs : ∀ j, j ∉ idx tg → e1[j]? = e2[j]?) : setTg tg w e2 = some e' := by
  cases tg with
  | one i => exact setMany_over (is := [i]) (ws := [w]) h hl hs
  | many is =>
    cases w with
    | tup l => exact setMany_over (is := is) (ws := l) h hl hs
    | _ => cases h
def wipeE (e : Env) : List Nat → Env
  | [] => e
  | v :: vs => (wipeE e vs).set v none
theorem wipeE_rel {c : Cfg} {ρ : Rho} {H : Hp} {env : Env} {σ : L2.St} (h : REnv c ρ H env σ) : ∀ vs, REnv c ρ H (wipeE env vs) (wipe σ vs)
  | [] => h
  | v :: vs => (wipeE_rel h vs).clear v
theorem wipeE_len (e : Env) : ∀ vs, (wipeE e vs).length = e.length
  | [] => rfl
  | v :: vs => by unfold wipeE; rw [List.length_set, wipeE_len e vs]
theorem wipeE_out {e : Env} {j : Nat} : ∀ {vs : List Nat}, j ∉ vs → (wipeE e vs)[j]? = e[j]?
  | [], _ => rfl
  | v :: vs, h => by
    simp only [List.mem_cons, not_or] at h
    unfold wipeE
    rw [List.getElem?_set_ne (Ne.symm h.1)]
    exact wipeE_out h.2

/-! ### comprehensions -/
section
variable {X : Cx} {c : Cfg} {N : List Str} {sc : Scope} {k : Nat} {Wx : WX}
theorem lc_imp {tg : Tg} {fz : Bool} {ei : Env → St → R Walk} {ec el : Env → St → R W} {vs : List Nat} (ho : vs = idx tg) {σ : L2.St} {H : Hp} {Q : VK}
    (h : tE c Wx (fun e s => (ei e s).bind fun wk s => (lcL wk.chk tg ec el e wk.items [] s).bind fun l s => newL fz l s) σ H Q) :
    tLc (tI c Wx ei) (tG c tg) (tT c (fun _ _ _ _ => False) ec) (tE c (fun _ _ _ _ => False) el) vs σ H Q := by
  obtain ⟨ρ, st, env, r, re, h⟩ := h
  refine ⟨ρ, st, env, r, re, h.bind.imp fun wk st1 ρ1 H1 _ x1 r1 h J hJ D hD => ?_⟩
  have re1 := re.ext x1
  subst ho
  -- the whole walk is known
  cases eF : lcL wk.chk tg ec el env wk.items [] st1 with
  | bad => rw [eF] at h; exact h.elim
  | exc a b d =>
    exfalso
    have : ∀ {items : List W} {acc : List W} {s : St}, ∀ a b d, lcL wk.chk tg ec el env items acc s ≠ .exc a b d := by
      intro items
      induction items with
      | nil => intro acc s a b d e; unfold lcL at e; split at e <;> cases e
      | cons x xs ih =>
        intro acc s a b d e
        unfold lcL at e
        split at e
        · split at e
          · split at e
            · split at e
              · split at e
                · split at e
                  · exact ih a b d e
                  · cases e
                · cases e
              · exact ih a b d e
              · cases e
            · cases e
          · cases e
        · cases e
    exact this a b d eF
  | ok lF stF =>
    rw [eF] at h
    have h : Post c (fun k d H' => Wx k d σ H') ρ1 H1 (newL fz lF stF) (QV c Q) := h
    have hT : ∀ ρ' H2, Ext ρ1 H1 ρ' H2 → Tr ρ1 H1 (ρ'.hide D) H2 := fun ρ' H2 x => by
      refine ⟨x.pre, fun a o e n => ⟨x.keep' e n, fun m => ?_⟩⟩
      rcases m with m | m
      · exact x.out e n (.inl m)
      · rcases List.mem_cons.mp m with z | z
        · subst z; rw [hD] at e; cases e
        · exact x.out e n (.inr z)
    have hOv : ∀ (ρ' : Rho) (H2 : Hp) (o : HO), Ext ρ1 H1 ρ' H2 → Ext ρ1 H1 ρ' (upd H2 D o) := fun ρ' H2 o x => by
      refine ⟨x.pre, x.hid, fun a u e n => ?_, x.new⟩
      have ha : a ≠ D := fun q => by subst q; rw [hD] at e; cases e
      rw [upd_ne ha]
      exact x.keep a u e n
    refine ⟨fun i m H => m = wk.items.length - i ∧ i ≤ wk.items.length ∧ ∃ ρ st acc accv, Ext ρ1 H1 ρ H ∧ H D = some (.lst accv) ∧ RelL c (ρ.hide D) H acc accv ∧ Rel c (ρ.hide D) H st ∧ lcL wk.chk tg ec el env (wk.items.drop i) acc st = .ok lF stF,
      ⟨wk.items.length, by simp, Nat.zero_le _, ρ1, st1, [], [], Ext.fresh hD, upd_same, RelL.nil, r1.hide hD, eF⟩, ?_⟩
    rintro i m H2 ⟨rfl, hle, ρ2, st2, acc, accv, x2, hDv, ra, r2, eL⟩
    have nD : D ∉ ρ2.l := (r2.hd D List.mem_cons_self).1
    by_cases hlt : i < wk.items.length
    · rw [List.drop_eq_getElem_cons hlt] at eL
      unfold lcL at eL
      split at eL
      · rename_i hchk
        split at eL
        · rename_i e' eT
          split at eL
          · rename_i w s2 eC
            have WK := (hJ (ρ2.hide D) H2 st2 (hT _ _ x2) r2 hchk i).1 _ (List.getElem?_eq_getElem hlt)
            refine .inr ⟨WK.1, fun H' => ∃ ρ st acc accv, Ext ρ1 H1 ρ H' ∧ H' D = some (.lst accv) ∧ RelL c (ρ.hide D) H' acc accv ∧ Rel c (ρ.hide D) H' st ∧ lcL wk.chk tg ec el env (wk.items.drop (i + 1)) acc st = .ok lF stF,
              fun H' hx => ⟨wk.items.length - (i + 1), by omega, rfl, hlt, hx⟩, fun x H3 hy => ?_⟩
            obtain ⟨y1, y2, y3⟩ := WK.2 x H3 hy
            have re3 : REnv c (ρ2.hide D) H3 env σ := (re1.tr (hT _ _ x2)).ext y1
            have re4 : REnv c (ρ2.hide D) H3 (wipeE env (idx tg)) (wipe σ (idx tg)) := wipeE_rel re3 _
            have eT' : setTg tg _ (wipeE env (idx tg)) = some e' := setTg_over eT (wipeE_len _ _).symm fun j hj => (wipeE_out hj).symm
            refine ⟨ρ2.hide D, st2, wipeE env (idx tg), _, e', y2, re4, y3, eT', fun σ' re5 l5 o5 => ?_⟩
            refine ⟨by rw [wipe_same l5 o5, wipe_wipe], ρ2.hide D, st2, e', y2, re5, ?_⟩
            rw [eC]
            intro ρ4 H4 x4 r4
            have hD4 : H4 D = some (.lst accv) := x4.keep _ _ (y1.keep _ _ hDv nD) nD
            obtain ⟨e4, z4⟩ := (y1.trans x4).unhide
            have ra4 : RelL c ρ4 H4 acc accv := (ra.ext y1).ext x4
            split at eL
            · rename_i eb
              refine ⟨true, eb, iteT ⟨ρ4, s2, e', r4, re5.ext x4, ?_⟩⟩
              split at eL
              · rename_i y s3 eE
                rw [eE]
                intro ρ5 H5 x5 r5 v rv
                have n4 : D ∉ ρ4.l := by rw [e4] at r4; exact (r4.hd D List.mem_cons_self).1
                have hD5 : H5 D = some (.lst accv) := x5.keep _ _ hD4 n4
                obtain ⟨e5, z5⟩ := ((y1.trans x4).trans x5).unhide
                split at eL
                · rename_i hlen
                  have m5 : D ∈ ρ5.hid := by rw [e5]; exact List.mem_cons_self
                  refine ⟨accv, hD5, by rw [← ra4.length, sizeLine_eq]; exact hlen, ⟨ρ5.l, ρ2.hid⟩, s3, acc ++ [y], accv ++ [v], hOv _ _ _ (x2.trans z5), upd_same, ?_, ?_, eL⟩
                  · rw [← e5]
                    exact ((ra4.ext x5).append (RelL.cons rv RelL.nil)).tr (Tr.over m5)
                  · rw [← e5]
                    exact r5.over m5
                · cases eL
              · cases eL
            · rename_i eb
              refine ⟨false, eb, iteF ⟨⟨ρ4.l, ρ2.hid⟩, s2, acc, accv, x2.trans z4, hD4, ?_, ?_, eL⟩⟩
              · rw [← e4]; exact ra4
              · rw [← e4]; exact r4
            · cases eL
          · cases eL
        · cases eL
      · cases eL
    · have e : i = wk.items.length := by omega
      subst e
      rw [List.drop_length] at eL
      unfold lcL at eL
      split at eL
      · rename_i hchk
        cases eL
        refine .inl ⟨(hJ (ρ2.hide D) H2 stF (hT _ _ x2) r2 hchk _).2 (Nat.le_refl _), ?_⟩
        have nh : D ∉ ρ2.hid := fun m => by
          rw [x2.hid] at m
          exact r1.out hD (.inr m)
        unfold newL at h
        split at h
        · refine h ρ2 H2 x2 r2.unhide _ ?_
          simp only [RelW]
          exact ⟨D, accv, rfl, .inl ⟨.inl hDv, fun z => z.elim nD nh⟩, ra.tr Tr.unhide⟩
        · refine h (ρ2.push D) H2 ?_ ?_ _ ?_
          · refine ⟨x2.pre.trans (List.prefix_append _ _), x2.hid, x2.keep, fun a m => ?_⟩
            rcases List.mem_append.mp m with z | z
            · exact x2.new a z
            · simp at z; subst z; exact .inr hD
          · refine ⟨by show (ρ2.l ++ [D]).length = _; rw [List.length_append, List.length_append]; exact congrArg (· + 1) r2.len, List.nodup_append.mpr ⟨r2.nd, by simp, fun x hx y hy => ?_⟩, fun j w a q1 q2 => ?_, fun a m => ?_⟩
            · simp at hy; subst hy
              intro z; subst z
              exact nD hx
            · have q2 : (ρ2.l ++ [D])[j]? = some a := q2
              by_cases hj : j < stF.length
              · have hj2 : j < ρ2.l.length := by have := r2.len; exact Nat.lt_of_lt_of_eq hj this.symm
                rw [List.getElem?_append_left hj] at q1
                rw [List.getElem?_append_left hj2] at q2
                exact (r2.at_ j w a q1 q2).tr Tr.unpush rfl
              · have hj2 : ρ2.l.length ≤ j := by have : ρ2.l.length = stF.length := r2.len; omega
                rw [List.getElem?_append_right (by omega)] at q1
                rw [List.getElem?_append_right hj2] at q2
                have l1 : j - stF.length = 0 := by
                  have z := (List.getElem?_eq_some_iff.mp q1).1
                  simp at z; omega
                have l2 : j - ρ2.l.length = 0 := by have : ρ2.l.length = stF.length := r2.len; omega
                rw [l1] at q1
                rw [l2] at q2
                simp at q1 q2
                subst q1 q2
                exact ⟨accv, hDv, ra.tr Tr.unpush⟩
            · obtain ⟨n1, z, q⟩ := r2.hd a (List.mem_cons_of_mem _ m)
              refine ⟨fun hm => ?_, z, q⟩
              rcases List.mem_append.mp hm with y | y
              · exact n1 y
              · simp at y; subst y; exact nh m
          · simp only [RelW]
            refine ⟨D, ?_, rfl⟩
            show (ρ2.l ++ [D])[stF.length]? = some D
            have : ρ2.l.length = stF.length := r2.len
            rw [← this, List.getElem?_append_right (Nat.le_refl _)]
            simp
      · cases eL
/-- what the rules for comprehensions ask -/
structure LcOk (c : Cfg) (X : Cx) (Wx : WX) (tg : Tg) (ei : Env → St → R Walk) (ec el : Env → St → R W) (elt tgt iter : Expr) (ifs : List Expr) (scope : Scope) (own : List (Str × Nat)) : Prop where
  ho : own.map (·.2) = idx tg
  hi : PI X tgt iter (tI c Wx ei)
  ok : BlkOk X.N X.env.scope scope own
  hg : ∀ (s : Shared) (H : Hp) (C : Addr) (cl : List (Str × Addr)) (fp : List Addr), PG (X.blk s H scope (compEnvC scope cl C X.env) fp) tgt (tG c tg)
  ht : ∀ (s : Shared) (H : Hp) (C : Addr) (cl : List (Str × Addr)) (fp : List Addr), PTs (X.blk s H scope (compEnvC scope cl C X.env) fp) ifs (tT c (fun _ _ _ _ => False) ec)
  he : ∀ (s : Shared) (H : Hp) (C : Addr) (cl : List (Str × Addr)) (fp : List Addr), PE (X.blk s H scope (compEnvC scope cl C X.env) fp) elt (tE c (fun _ _ _ _ => False) el)
  hs : ∀ x, foldedSetIterable iter X.env x = pure x
theorem E_lc {tg : Tg} {fz : Bool} {ei : Env → St → R Walk} {ec el : Env → St → R W} {elt tgt iter : Expr} {ifs : List Expr} {scope : Scope} {own : List (Str × Nat)} {pos : Pos} (G : Good c N X sc k) (L : LcOk c X Wx tg ei ec el elt tgt iter ifs scope own) :
    PE X (.ListComp elt [⟨tgt, iter, ifs, 0⟩] scope pos) (tE c Wx fun e s => (ei e s).bind fun wk s => (lcL wk.chk tg ec el e wk.items [] s).bind fun l s => newL fz l s) :=
  PE.weak (pe_lc G.calm (by rw [G.hN]; exact G.nd) L.hi L.ok L.hg L.ht L.he L.hs) fun σ H Q h => lc_imp L.ho h
end
end Px

set_option linter.all false
set_option maxRecDepth 100000
/-! PxD: displays of dicts; o[i] = v. -/
namespace Px
open PySem PySem.Spec PyProof.Rows L2

theorem RelL.set {c : Cfg} {ρ : Rho} {H : Hp} : ∀ {ws : List W} {vs : List V} {w : W} {v : V} (j : Nat), RelL c ρ H ws vs → RelW c ρ H w v → RelL c ρ H (ws.set j w) (vs.set j v)
  | [], _, _, _, _, h, _ => by simp only [RelL] at h; subst h; simpa using RelL.nil
  | x :: ws, _, _, _, 0, h, r => by
    simp only [RelL] at h
    obtain ⟨y, ys, rfl, _, h2⟩ := h
    exact RelL.cons r h2
  | x :: ws, _, _, _, j + 1, h, r => by
    simp only [RelL] at h
    obtain ⟨y, ys, rfl, h1, h2⟩ := h
    exact RelL.cons h1 (RelL.set j h2 r)
def pairV : List V → Option (List (V × V))
  | [] => some []
  | k :: v :: r => (pairV r).map ((k, v) :: ·)
  | _ => none
section
variable {X : Cx} {c : Cfg} {Wx : WX} {pos : Pos} {cl : Nat → List W → St → R W} {mkc : Nat → Nat → List W → St → R W} {mt : Nat → Nat → Option Nat}
theorem P_pairs {f : Expr → E → Bool} (ih : ∀ e ce, f e ce = true → PE X e (tE c Wx (evE cl mkc mt ce))) : ∀ {ks : List (Option Expr)} {vs : List Expr} {ps : Es}, dctB f ks vs ps = true → ∃ trs, PPs X pos ks vs trs ∧
    ∀ (σ : L2.St) (H : Hp) (Q : List (V × V) → Hp → Prop), tEs c Wx (evEs cl mkc mt ps) σ H (fun us H' => ∃ q, pairV us = some q ∧ Q q H') → tPairs trs σ H Q
  | [], [], .nil, _ => ⟨[], pps_nil, fun σ H Q h => by
    obtain ⟨ρ, st, env, r, re, h⟩ := h
    simp only [evEs] at h
    obtain ⟨q, e, z⟩ := Post.here h r [] RelL.nil
    cases e
    exact z⟩
  | some k :: ks, v :: vs, .cons a (.cons b ps), h => by
    simp only [dctB, Bool.and_eq_true] at h
    obtain ⟨trs, P, hP⟩ := P_pairs ih h.2
    refine ⟨_, pps_cons (ih _ _ h.1.1) (ih _ _ h.1.2) P, fun σ H Q h => ?_⟩
    obtain ⟨ρ, st, env, r, re, h⟩ := h
    have e1 : evEs cl mkc mt (.cons a (.cons b ps)) env st = (evE cl mkc mt a env st).bind fun w s => ((evE cl mkc mt b env s).bind fun w2 s => (evEs cl mkc mt ps env s).bind fun ws s => .ok (w2 :: ws) s).bind fun ws s => .ok (w :: ws) s := by simp only [evEs]
    rw [e1] at h
    refine ⟨ρ, st, env, r, re, h.bind.imp fun w1 st1 ρ1 H1 _ x1 r1 h v1 rv1 => ?_⟩
    refine ⟨ρ1, st1, env, r1, re.ext x1, h.bind.bind.imp fun w2 st2 ρ2 H2 _ x2 r2 h v2 rv2 => ?_⟩
    refine hP σ H2 _ ⟨ρ2, st2, env, r2, (re.ext x1).ext x2, h.bind.imp fun ws st3 ρ3 H3 _ x3 r3 h us rus => ?_⟩
    have h := Post.here h r3
    have h := Post.here (Q := QVs c fun us H' => ∃ q, pairV us = some q ∧ Q q H') h r3
    obtain ⟨q, e2, z⟩ := h (v1 :: v2 :: us) (RelL.cons ((rv1.ext x2).ext x3) (RelL.cons (rv2.ext x3) rus))
    simp only [pairV] at e2
    cases e3 : pairV us with
    | none => rw [e3] at e2; cases e2
    | some q' =>
      rw [e3] at e2
      cases e2
      exact ⟨q', e3, z⟩
  | [], [], .cons _ _, h => by cases h
  | [], _ :: _, _, h => by cases h
  | none :: _, _, _, h => by cases h
  | some _ :: _, [], _, h => by cases h
  | some _ :: _, _ :: _, .nil, h => by cases h
  | some _ :: _, _ :: _, .cons _ .nil, h => by cases h
def Rel2 (c : Cfg) (ρ : Rho) (H : Hp) : List (W × W) → List (V × V) → Prop := Paired fun p q => RelW c ρ H p.1 q.1 ∧ RelW c ρ H p.2 q.2
theorem pair_rel {ρ : Rho} {H : Hp} : ∀ {ws : List W} {l : List (W × W)} {vs : List V}, pairUp ws = some l → RelL c ρ H ws vs → ∃ q, pairV vs = some q ∧ Rel2 c ρ H l q
  | [], _, _, e, r => by
    cases e
    simp only [RelL] at r; subst r
    exact ⟨[], rfl, .nil⟩
  | [_], _, _, e, _ => by cases e
  | k :: v :: ws, _, _, e, r => by
    simp only [RelL] at r
    obtain ⟨x, _, rfl, r1, y, vs, rfl, r2, r3⟩ := r
    simp only [pairUp] at e
    cases e1 : pairUp ws with
    | none => rw [e1] at e; cases e
    | some l' =>
      rw [e1] at e
      cases e
      obtain ⟨q, e2, rq⟩ := pair_rel e1 r3
      exact ⟨(x, y) :: q, by simp only [pairV, e2]; rfl, .cons ⟨r1, r2⟩ rq⟩
theorem dspk_rel {ρ : Rho} {H : Hp} : ∀ {l : List (W × W)} {q : List (V × V)}, (l.all fun p => isKey p.1) = true → Rel2 c ρ H l q → ∃ kvs : List (L2.Key × V), q = kvs.map (fun kv => (kV kv.1, kv.2)) ∧ RelD c ρ H l kvs
  | [], _, _, r => by cases r; exact ⟨[], rfl, .nil⟩
  | p :: l, _, h, r => by
    rw [List.all_cons, Bool.and_eq_true] at h
    cases r with
    | @cons _ q _ qs r1 r2 =>
      obtain ⟨kvs, e, rd⟩ := dspk_rel h.2 r2
      obtain ⟨k, ek⟩ := isKey_ky h.1
      have e1 := kyW_rel ek r1.1
      refine ⟨(k, q.2) :: kvs, ?_, .cons ⟨ek, r1.2⟩ rd⟩
      rw [List.map_cons, e, ← e1]
theorem mrg_rel {ρ : Rho} {H : Hp} : ∀ {l : List (W × W)} {kvs : List (L2.Key × V)} {a : List (W × W)} {b : List (L2.Key × V)}, RelD c ρ H l kvs → RelD c ρ H a b → RelD c ρ H (l.foldl (fun acc p => putD acc p.1 p.2) a) (kvs.foldl (fun acc kv => putK acc kv.1 kv.2) b)
  | [], _, _, _, r, z => by cases r; exact z
  | p :: l, _, a, b, r, z => by
    cases r with
    | @cons _ q _ qs r1 r2 => exact mrg_rel (l := l) (kvs := qs) r2 (putD_ok r1.1 r1.2 z)
/-- a thing that was hidden becomes the store's next -/
theorem Rel.unhideP {ρ : Rho} {H : Hp} {st : St} {D : Addr} {u : O} (r : Rel c (ρ.hide D) H st) (nh : D ∉ ρ.hid) (q : ObjAt c (ρ.push D) H D u) : Rel c (ρ.push D) H (st ++ [u]) := by
  have nD : D ∉ ρ.l := (r.hd D List.mem_cons_self).1
  refine ⟨by show (ρ.l ++ [D]).length = _; rw [List.length_append, List.length_append]; exact congrArg (· + 1) r.len, List.nodup_append.mpr ⟨r.nd, by simp, fun x hx y hy => ?_⟩, fun j w a q1 q2 => ?_, fun a m => ?_⟩
  · simp at hy; subst hy
    intro z; subst z
    exact nD hx
  · have q2 : (ρ.l ++ [D])[j]? = some a := q2
    by_cases hj : j < st.length
    · have hj2 : j < ρ.l.length := by have := r.len; exact Nat.lt_of_lt_of_eq hj this.symm
      rw [List.getElem?_append_left hj] at q1
      rw [List.getElem?_append_left hj2] at q2
      exact (r.at_ j w a q1 q2).tr Tr.unpush rfl
    · have hj2 : ρ.l.length ≤ j := by have : ρ.l.length = st.length := r.len; omega
      rw [List.getElem?_append_right (by omega)] at q1
      rw [List.getElem?_append_right hj2] at q2
      have l1 : j - st.length = 0 := by
        have z := (List.getElem?_eq_some_iff.mp q1).1
        simp at z; omega
      have l2 : j - ρ.l.length = 0 := by have : ρ.l.length = st.length := r.len; omega
      rw [l1] at q1
      rw [l2] at q2
      simp at q1 q2
      subst q1 q2
      exact q
  · obtain ⟨n1, z, e⟩ := r.hd a (List.mem_cons_of_mem _ m)
    refine ⟨fun hm => ?_, z, e⟩
    rcases List.mem_append.mp hm with y | y
    · exact n1 y
    · simp at y; subst y; exact nh m
theorem dctB_len {f : Expr → E → Bool} : ∀ {ks : List (Option Expr)} {vs : List Expr} {ps : Es}, dctB f ks vs ps = true → ks.length = vs.length ∧ ks.all (·.isSome) = true
  | [], [], .nil, _ => ⟨rfl, rfl⟩
  | some k :: ks, v :: vs, .cons a (.cons b ps), h => by
    simp only [dctB, Bool.and_eq_true] at h
    obtain ⟨h1, h2⟩ := dctB_len h.2
    exact ⟨by rw [List.length_cons, List.length_cons, h1], by rw [List.all_cons, h2]; rfl⟩
  | [], [], .cons _ _, h => by cases h
  | [], _ :: _, _, h => by cases h
  | none :: _, _, _, h => by cases h
  | some _ :: _, [], _, h => by cases h
  | some _ :: _, _ :: _, .nil, h => by cases h
  | some _ :: _, _ :: _, .cons _ .nil, h => by cases h
theorem E_dct [Pwx X c] {f : Expr → E → Bool} {t : Bool} {ks : List (Option Expr)} {vs : List Expr} {ps : Es} {trs : List (TE × TE)} (hb : dctB f ks vs ps = true) (h15 : ks.length ≤ 15) (ht : t = true → ks.isEmpty = true) (P : PPs X pos ks vs trs)
    (hP : ∀ (σ : L2.St) (H : Hp) (Q : List (V × V) → Hp → Prop), tEs c Wx (evEs cl mkc mt ps) σ H (fun us H' => ∃ q, pairV us = some q ∧ Q q H') → tPairs trs σ H Q) :
    PE X (.Dict ks vs pos) (tE c Wx fun e s => (match evEs cl mkc mt ps e s with
      | .ok ws s2 => newD t ws s2
      | _ => .bad)) := by
  obtain ⟨b1, b2⟩ := dctB_len hb
  cases ks with
  | nil =>
    cases vs with
    | cons _ _ => cases b1
    | nil =>
      cases ps with
      | cons _ _ => cases hb
      | nil =>
        cases t with
        | false =>
          refine PE.weak pe_dnewK fun σ H Q h p hp => ?_
          obtain ⟨ρ, st, env, r, re, h⟩ := h
          simp only [evEs] at h
          have h : Post c (fun k d H' => Wx k d σ H') ρ H (.ok (.ref st.length) (st ++ [.dict false []])) (QV c Q) := h
          refine h (ρ.push p) _ (Ext.push hp) (r.push hp ⟨[], upd_same, .nil⟩) _ (RelW.ref_new r)
        | true =>
          refine PE.weak (pe_dnewQ (c := c)) fun σ H Q h p hp hs => ?_
          obtain ⟨ρ, st, env, r, re, h⟩ := h
          simp only [evEs] at h
          have h : Post c (fun k d H' => Wx k d σ H') ρ H (.ok (.ref st.length) (st ++ [.dict true []])) (QV c Q) := h
          refine h (ρ.push p) _ (Ext.push hp) (r.push hp ⟨[], upd_same, Nat.zero_le _, hs, .nil, .nil⟩) _ (RelW.ref_new r)
  | cons k ks =>
    have t0 : t = false := by
      cases t with
      | false => rfl
      | true => exact absurd (ht rfl) (by simp)
    subst t0
    refine PE.weak (pe_disp P b2 b1 (by simp) h15) fun σ H Q h p hp => ?_
    obtain ⟨ρ, st, env, r, re, h⟩ := h
    dsimp only at h
    refine hP σ _ _ ⟨ρ.hide p, st, env, r.hide hp, re.tr (Tr.hide hp), ?_⟩
    cases eE : evEs cl mkc mt ps env st with
    | bad => rw [eE] at h; exact h.elim
    | exc _ _ _ => rw [eE] at h; exact h.elim
    | ok ws s2 =>
      rw [eE] at h
      dsimp only at h
      have h : Post c (fun k d H' => Wx k d σ H') ρ H (match dsp ws with
        | some l => R.ok (W.ref s2.length) (s2 ++ [O.dict false l])
        | none => R.bad) (QV c Q) := h
      cases ed : dsp ws with
      | none => rw [ed] at h; exact h.elim
      | some l =>
        rw [ed] at h
        intro ρ' H' x' r' vs' rv
        unfold dsp at ed
        cases ep : pairUp ws with
        | none => rw [ep] at ed; cases ed
        | some l0 =>
          rw [ep] at ed
          dsimp only at ed
          split at ed
          · rename_i hk
            cases ed
            obtain ⟨q, eq, rq⟩ := pair_rel ep rv
            obtain ⟨kvs, ek, rd⟩ := dspk_rel hk.1 rq
            have hD : H' p = some (.dK []) := x'.keep p _ upd_same (fun m => (r.hide (o := .dK []) hp).hd p List.mem_cons_self |>.1 m)
            obtain ⟨e', z⟩ := x'.unhide
            have hl : kvs.length = l0.length := (Paired.length rd).symm
            refine ⟨q, eq, hD, kvs, ek, by rw [hl]; exact hk.2, ?_⟩
            have mem : p ∈ ρ'.hid := by rw [e']; exact List.mem_cons_self
            have nh : p ∉ ρ.hid := fun m => r.out hp (.inr m)
            have ro := r'.over (o := .dK (mergeK [] kvs)) mem
            rw [e'] at ro
            have nD : p ∉ ρ'.l := (r'.hd p mem).1
            refine h ((Rho.mk ρ'.l ρ.hid).push p) _ ?_ (Rel.unhideP ro nh ⟨mergeK [] kvs, upd_same, ?_⟩) _ ?_
            · refine ⟨z.pre.trans (List.prefix_append _ _), rfl, fun a u e n => ?_, fun a m => ?_⟩
              · have ne : a ≠ p := fun q => by subst q; rw [hp] at e; cases e
                rw [upd_ne ne]
                exact z.keep a u (by rw [upd_ne ne]; exact e) n
              · rcases List.mem_append.mp m with y | y
                · rcases z.new a y with y2 | y2
                  · exact .inl y2
                  · by_cases e : a = p
                    · subst e; exact .inr hp
                    · rw [upd_ne e] at y2; exact .inr y2
                · simp at y; subst y; exact .inr hp
            · have rd2 := mrg_rel rd (a := []) (b := []) .nil
              refine RelD.tr ?_ rd2
              rw [e']
              have t1 : Tr ((Rho.mk ρ'.l ρ.hid).hide p) H' ((Rho.mk ρ'.l ρ.hid).hide p) (upd H' p (.dK (mergeK [] kvs))) := Tr.over List.mem_cons_self
              have t2 : Tr ((Rho.mk ρ'.l ρ.hid).hide p) (upd H' p (.dK (mergeK [] kvs))) ((Rho.mk ρ'.l ρ.hid).push p) (upd H' p (.dK (mergeK [] kvs))) := Tr.unpush
              exact ⟨t1.pre.trans t2.pre, fun a o e n => let ⟨y1, y2⟩ := t1.keep a o e n; t2.keep a o y1 y2⟩
            · simp only [RelW]
              refine ⟨p, ?_, rfl⟩
              show (ρ'.l ++ [p])[s2.length]? = some p
              have : ρ'.l.length = s2.length := r'.len
              rw [← this, List.getElem?_append_right (Nat.le_refl _)]
              simp
          · cases ed
/-! ### o[i] = v -/
def rSetW (c : Cfg) : TSet := fun o i v H Q => ∃ ρ st wo wi wv st', Rel c ρ H st ∧ RelW c ρ H wo o ∧ RelW c ρ H wi i ∧ RelW c ρ H wv v ∧ setIW st wo wi wv = some st' ∧ ∀ H', Ext ρ H ρ H' → Rel c ρ H' st' → Q H'
theorem set_W [Pwx X c] (hu : X.A.units + 64 < cLine) (hK : X.K = c.K) : PSet X (rSetW c) := by
  intro pins s σ H o i v ov iv u Q I ro ri rv h
  obtain ⟨ρ, st, wo, wi, wv, st', r, r1, r2, r3, e, q⟩ := h
  unfold setIW at e
  split at e
  · rename_i n
    simp only [RelW] at r1
    obtain ⟨a, e1, rfl⟩ := r1
    split at e
    · rename_i l el
      obtain ⟨a', e2, xs, e3, rs⟩ := r.at_n el
      rw [e1] at e2; cases e2
      split at e
      · rename_i k
        cases rel_int r2
        cases ej : ixN l.length k with
        | none => rw [ej] at e; cases e
        | some j =>
          rw [ej] at e
          cases e
          refine set_list pins s σ H _ _ v ov iv u Q I ro ri rv ⟨a, xs, k, j, rfl, rfl, e3, by rw [← rs.length]; exact ej, ?_⟩
          refine q _ (Ext.write e1) (r.write e1 ⟨_, upd_same, ?_⟩)
          exact RelL.set j (rs.ext (Ext.write e1)) (r3.ext (Ext.write e1))
      · cases e
    · rename_i t l el
      obtain ⟨a', e2, oa⟩ := r.at_n el
      rw [e1] at e2; cases e2
      split at e
      · rename_i hk
        cases e
        cases t with
        | false =>
          obtain ⟨kvs, e3, rd⟩ := oa
          obtain ⟨k, ek⟩ := isKey_ky (w := wi) hk.1
          have ey := kyW_rel ek r2
          subst ey
          have hl : kvs.length = l.length := (Paired.length rd).symm
          refine set_dict (by omega) pins s σ H _ _ v ov iv u Q I ro ri rv ⟨a, _, rfl, DPut.k e3 (by rw [hl, sizeLine_eq]; exact hk.2), ?_⟩
          refine q _ (Ext.write e1) (r.write e1 ⟨_, upd_same, ?_⟩)
          exact RelG.tr (Ext.write e1).tr (putG_ok kyW_ok ek r3 rd)
        | true =>
          obtain ⟨xs, d, rd⟩ := dt_in oa
          obtain ⟨k, ek⟩ := isTK_ky (w := wi) hk.1
          obtain ⟨b, rfl, tb⟩ := kyT_rel ek r2
          have hl : l.length = xs.length := relT_len rd
          cases (show iv = Value.ref b from ri)
          cases (show ov = Value.ref a from ro)
          have x' : Ext ρ H ρ (upd H a (dtq c a (storedH xs k b u))) := Ext.write e1
          refine d_setQ (c := c) (by omega) hK I d tb.sq fun s' I' => ⟨_, I', q _ x' (r.write e1 ⟨_, upd_same, ?_, d.hs, ?_, ?_⟩)⟩
          · have := putD_len l wi wv
            have : l.length < line := hk.2
            omega
          · exact stored_nd d.nd
          · exact (relT_put ek tb r3 rv rd).tr x'.tr
      · cases e
    · cases e
  · cases e
end
end Px

set_option linter.all false
set_option maxRecDepth 100000
/-! PxK: get, setdefault, items of our dicts; dicts of the module. -/
namespace Px
open PySem PySem.Spec PyProof.Rows L2 L2.DX

/-- a is a dict, whatever its keys -/
inductive IsDq (c : Cfg) (H : Hp) (a : Addr) : Prop where
  | k (h : L2.IsD H a)
  | q (xs : List (List L2.Key × Addr × Value)) (d : DtIn c H a xs)
section
variable {X : Cx} {c : Cfg} [Pwx X c] {pins : List (Addr × Obj)} {σ : L2.St} {H : Hp} {s : Shared} {a b : Addr}
theorem isDq_at (hK : X.K = c.K) (I : Inv X pins σ H s) (d : IsDq c H a) : s.TypeIs (.ref a) "dict" ∧ (∀ b, Value.ref a = .ref b → ∃ ob, s.heap.get? b = some ob ∧ ob.dict = none) ∧ (a == sysModules) = false := by
  cases d with
  | k h => exact isD_at I h
  | q xs d =>
    have dd := d.dict hK I
    refine ⟨dd.typeIs, fun b q => ?_, d.hs⟩
    cases q
    obtain ⟨ob, _, _, h1, h2, _⟩ := dd
    exact ⟨ob, h1, h2.2.1⟩
/-- x.get(y, z) -/
inductive GetQ (c : Cfg) (H : Hp) (a : Addr) (y : V) (z : V) (Q : VK) : Prop where
  | k (o : Option V) (g : DGet H a y o) (q : Q (o.getD z) H)
  | q (xs : List (List L2.Key × Addr × Value)) (k : List L2.Key) (b : Addr) (ey : y = .ref b) (d : DtIn c H a xs) (t : SqT c.K H b (k.map kV)) (q1 : ∀ p, atKey xs k = some p → ∃ v, RelV v p.2 ∧ Q v H) (q2 : atKey xs k = none → Q z H)
theorem get2_at (hu : X.A.units + 1 < cLine) (hK : X.K = c.K) {y z : V} {u r : Value} {Q : VK} (I : Inv X pins σ H s) (g : GetQ c H a y z Q) (ry : RelV y u) (rz : RelV z r) :
    wpAny (model X.prog X.w) X.A (call (.builtin "dict.get") [.ref a, u, r]) (EP X pins σ Q) X.xe s := by
  cases g with
  | k o g q => exact d_get2 hu I g ry rz fun w' s4 I4 rw' => ⟨_, _, I4, rw', q⟩
  | q xs k b ey d t q1 q2 =>
    subst ey
    cases (show u = Value.ref b from ry)
    have dd := d.dict hK I
    refine call_meetsIn PySem.F.slot_dict_get dd.typeIs PySem.F.entry_dict_get (PySem.F.args_dict_get_3 _ _ _) (meetsH_dict_get_default (tupleKind (mixKind X.prog X.w)) a b d.hs r) ⟨tupleKind_room_in1 hu, k, xs, key_at hK I t, dd, ?_⟩
    cases e : atKey xs k with
    | none => exact ⟨z, H, I.tok _, rz, q2 e⟩
    | some p =>
      obtain ⟨v, rv, q⟩ := q1 p e
      exact ⟨v, H, I.tok _, rv, q⟩
theorem get1_at (hu : X.A.units + 1 < cLine) (hK : X.K = c.K) {y : V} {u : Value} {Q : VK} (I : Inv X pins σ H s) (g : GetQ c H a y .non Q) (ry : RelV y u) :
    wpAny (model X.prog X.w) X.A (call (.builtin "dict.get") [.ref a, u]) (EP X pins σ Q) X.xe s := by
  cases g with
  | k o g q => exact d_get1 hu I g ry fun w' s4 I4 rw' => ⟨_, _, I4, rw', q⟩
  | q xs k b ey d t q1 q2 =>
    subst ey
    cases (show u = Value.ref b from ry)
    have dd := d.dict hK I
    refine call_meetsIn PySem.F.slot_dict_get dd.typeIs PySem.F.entry_dict_get (PySem.F.args_dict_get_2 _ _) (meetsH_dict_get (tupleKind (mixKind X.prog X.w)) a b d.hs) ⟨tupleKind_room_in1 hu, k, xs, key_at hK I t, dd, ?_⟩
    cases e : atKey xs k with
    | none => exact ⟨.non, H, I.tok _, rfl, q2 e⟩
    | some p =>
      obtain ⟨v, rv, q⟩ := q1 p e
      exact ⟨v, H, I.tok _, rv, q⟩
end
section
variable {prog : Program} {w : World} {A : Around} {E : Value → Shared → Prop} {K : Type} [DecidableEq K] {knd : HeapKind prog w K}
theorem setd_raw {s : Shared} {d a : Addr} {xs : List (K × Addr × Value)} {k : K} {dflt : Value} {Q : Value → Shared → Prop} (hu : knd.room A) (hkey : knd.is s.heap k a) (hm : RawD knd s.heap d xs xs.length)
    (his : ∀ x ∈ xs, knd.is s.heap x.1 x.2.1) (hn : (xs.map (·.1)).Nodup) (hz : xs.length ≤ sizeLine)
    (h1 : ∀ p, atKey xs k = some p → Q p.2 { s with toks := s.toks + knd.draws k })
    (h2 : atKey xs k = none → ∀ h', RawD knd h' d (storedH xs k a dflt) (storedH xs k a dflt).length → Heap.SameBut d s.heap h' → Q dflt { s with heap := h', toks := s.toks + knd.draws k }) :
    wpAny (model prog w) A (dictSetDefault d (.ref a) dflt) Q E s := by
  obtain ⟨o, es, ho, hc, hd, he⟩ := hm
  have hsz : es.size = xs.length := size_of_entries he
  unfold dictSetDefault
  try with_reducible refine wpAny_holding ?_
  refine wpAny_bind (knd.pyHash hu hkey ?_)
  refine wpAny_bind (wpAny_dictFind_heap (s := { s with toks := s.toks + knd.draws k }) hu hkey ho hd he his hn (fun hno => ?_) fun j p hj => ?_)
  · have hk := atKey_none_of_get hno
    have e1 := storedH_new hk a dflt
    have e2 : (storedH xs k a dflt).length = xs.length + 1 := by rw [e1]; simp
    refine wpAny_bind (wpAny_rule (wpAny_bind (wpAny_updateDictKeys (hz := by omega) (s := { s with toks := s.toks + knd.draws k }) ho hd (wpAny_pure (h2 hk _ (RawD.mk' (es := es.push { hash := knd.hash k, key := .ref a, val := dflt }) (Heap.get?_update_self _ ho (Obj.isFreed_of_dict (Obj.data_mapDictKeys hd _))) (hc.mapDictKeys _) ?_ ?_) (Heap.SameBut.update ..))))))
    · rw [e2]; exact Obj.data_mapDictKeys hd _
    · rw [e1]
      simp [he, entryOfKey]
  · refine wpAny_bind (wpAny_dictEntries (s := { s with toks := s.toks + knd.draws k }) ho hd ?_)
    rw [entry_at he j, hj]
    exact wpAny_bind (wpAny_rule (wpAny_pure (h1 p (atKey_of_get hn hj))))
theorem meets_setd_raw {d a : Addr} {dflt : Value} (hs : (d == sysModules) = false) : MeetsIn prog w (Builtin.«dict.setdefault» ⟨[.ref d, .ref a, dflt], []⟩) (fun A R s => knd.room A.in1 ∧ ∃ (k : K) (xs : List (K × Addr × Value)), knd.is s.heap k a ∧ RawD knd s.heap d xs xs.length ∧ (∀ x ∈ xs, knd.is s.heap x.1 x.2.1) ∧ (xs.map (·.1)).Nodup ∧ xs.length ≤ sizeLine ∧
      (∀ p, atKey xs k = some p → R (.ok (.ret p.2)) { s with toks := s.toks + knd.draws k }) ∧
      (atKey xs k = none → ∀ h', RawD knd h' d (storedH xs k a dflt) (storedH xs k a dflt).length → Heap.SameBut d s.heap h' → R (.ok (.ret dflt)) { s with heap := h', toks := s.toks + knd.draws k })) :=
  .of_wp fun A R s ⟨hu, k, xs, hkey, hm, his, hn, hz, h1, h2⟩ => by
    unfold Builtin.«dict.setdefault»
    refine wpAny_bind ?_
    unfold Builtin.Dict.keyAndDefault
    refine wpAny_bind (wpAny_notOrdered_dict (hm.of his hn).typeIs ?_)
    show wpAny _ _ (pure (d, Value.ref a, some dflt)) _ _ s
    refine wpAny_pure ?_
    show wpAny _ _ (if (d == sysModules) = true then _ else (dictSetDefault d (.ref a) dflt >>= _)) _ _ s
    rw [if_neg (by rw [hs]; exact Bool.false_ne_true)]
    exact wpAny_bind (setd_raw hu hkey hm his hn hz (fun p hp => wpAny_pure ⟨_, rfl, h1 p hp⟩) fun hk h' hr hb => wpAny_pure ⟨_, rfl, h2 hk h' hr hb⟩)
end
section
variable {X : Cx} {c : Cfg} [Pwx X c] {pins : List (Addr × Obj)} {σ : L2.St} {H : Hp} {s : Shared} {a b : Addr}
/-- x.setdefault(y, z) -/
inductive SetdQ (c : Cfg) (H : Hp) (a : Addr) (y : V) (z : V) (Q : VK) : Prop where
  | k (kvs : List (L2.Key × V)) (k : L2.Key) (e : H a = some (.dK kvs)) (ey : y = kV k) (hl : kvs.length < sizeLine) (q1 : ∀ v, valV kvs k = some v → Q v H) (q2 : valV kvs k = none → Q z (upd H a (.dK (putK kvs k z))))
  | q (xs : List (List L2.Key × Addr × Value)) (k : List L2.Key) (b : Addr) (ey : y = .ref b) (d : DtIn c H a xs) (t : SqT c.K H b (k.map kV)) (q1 : ∀ p, atKey xs k = some p → ∃ v, RelV v p.2 ∧ Q v H)
    (q2 : atKey xs k = none → ∀ r, RelV z r → Q z (upd H a (dtq c a (storedH xs k b r))))
theorem setd_at (hu : X.A.units + 1 < cLine) (hK : X.K = c.K) {y z : V} {u r : Value} {Q : VK} (I : Inv X pins σ H s) (g : SetdQ c H a y z Q) (ry : RelV y u) (rz : RelV z r) :
    wpAny (model X.prog X.w) X.A (call (.builtin "dict.setdefault") [.ref a, u, r]) (EP X pins σ Q) X.xe s := by
  cases g with
  | k kvs k e ey hl q1 q2 =>
    subst ey
    exact d_setd I e ry rz hl (fun v hv w' s4 I4 rw' => ⟨v, _, I4, rw', q1 v hv⟩) fun hn w' s4 I4 rw' => ⟨z, _, I4, rw', q2 hn⟩
  | q xs k b ey d t q1 q2 =>
    subst ey
    cases (show u = Value.ref b from ry)
    have dd := d.dict hK I
    have hz : xs.length ≤ sizeLine := by rw [sizeLine_eq]; have : xs.length ≤ 16777216 := d.hz; omega
    refine call_meetsIn PySem.F.slot_dict_setdefault dd.typeIs PySem.F.entry_dict_setdefault (PySem.F.args_dict_setdefault_3 _ _ _) (meets_setd_raw (knd := tupleKind (mixKind X.prog X.w)) (dflt := r) d.hs) ⟨tupleKind_room_in1 hu, k, xs, key_at hK I t, dtq_raw I d.e, fun x hx => key_at hK I (d.ks x hx), d.nd, hz, fun p hp => ?_, fun hn h' hr hb => ?_⟩
    · obtain ⟨v, rv, q⟩ := q1 p hp
      exact ⟨v, H, I.tok _, rv, q⟩
    · exact ⟨z, _, d_write I (by rw [d.e]; exact True.intro) hb (let ⟨o, _, e, _⟩ := hr; ⟨o, e⟩) (dtq_new hr), rz, q2 hn r rz⟩
end
/-! ### by our values -/
section
variable {c : Cfg} {ρ : Rho} {H : Hp} {st : St}
theorem isDq_of {w : W} {x : V} (r : Rel c ρ H st) (rw_ : RelW c ρ H w x) (h : isDf st w = true) : ∃ a, x = .ref a ∧ IsDq c H a := by
  unfold isDf at h
  obtain ⟨d, e⟩ := Option.isSome_iff_exists.mp h
  obtain ⟨t, l⟩ := d
  obtain ⟨a, rfl, q⟩ := dictOf_at r rw_ e
  refine ⟨a, rfl, ?_⟩
  cases t with
  | false =>
    obtain ⟨kvs, e1, _⟩ := q
    exact .k (.inl ⟨kvs, .inl e1⟩)
  | true =>
    obtain ⟨xs, d, _⟩ := dt_in q
    exact .q xs d
theorem getQ_of {E : XK} {wd wk wz : W} {a : Addr} {y z : V} {Q : VK} (r : Rel c ρ H st) (rd : RelW c ρ H wd (.ref a)) (rk : RelW c ρ H wk y) (rz : RelW c ρ H wz z) (h : Post c E ρ H (dgetW st wd wk wz) (QV c Q)) : GetQ c H a y z Q := by
  unfold dgetW at h
  split at h
  · rename_i t l e
    split at h
    · rename_i hk
      obtain ⟨a', ea, q⟩ := dictOf_at r rd e
      cases ea
      have h := Post.here h r
      cases t with
      | false =>
        obtain ⟨o, g, lk⟩ := dget_ok q hk rk
        refine .k o g (h _ ?_)
        revert lk
        cases lookD l wk <;> cases o <;> intro lk <;> first | exact rz | exact lk | exact lk.elim
      | true =>
        obtain ⟨xs, k, b, d, rfl, t, lk⟩ := dgetT_ok q hk rk
        refine .q xs k b rfl d t (fun p ep => ?_) fun en => ?_
        · rw [ep] at lk
          cases el : lookD l wk with
          | none => rw [el] at lk; exact lk.elim
          | some w' =>
            rw [el] at lk h
            obtain ⟨v, k1, k2⟩ := lk
            exact ⟨v, k2, h v k1⟩
        · rw [en] at lk
          cases el : lookD l wk with
          | none => rw [el] at h; exact h z rz
          | some w' => rw [el] at lk; exact lk.elim
    · exact h.elim
  · exact h.elim
theorem setdQ_of {E : XK} {wd wk wz : W} {a : Addr} {y z : V} {Q : VK} (r : Rel c ρ H st) (rd : RelW c ρ H wd (.ref a)) (rk : RelW c ρ H wk y) (rz : RelW c ρ H wz z) (h : Post c E ρ H (sdfW st wd wk wz) (QV c Q)) : SetdQ c H a y z Q := by
  unfold sdfW at h
  split at h
  · rename_i n
    simp only [RelW] at rd
    obtain ⟨a', e1, ea⟩ := rd
    cases ea
    split at h
    · rename_i t l el
      obtain ⟨a', e2, oa⟩ := r.at_n el
      rw [e1] at e2; cases e2
      split at h
      · rename_i hk
        cases t with
        | false =>
          have oa' := oa
          obtain ⟨kvs, e3, rg⟩ := oa
          obtain ⟨k, ek⟩ := isKey_ky (w := wk) hk.1
          have ey := kyW_rel ek rk
          subst ey
          have hl : kvs.length = l.length := (Paired.length rg).symm
          have lk := lookG_ok kyW_ok ek rg
          refine .k kvs k e3 rfl (by rw [hl, sizeLine_eq]; exact hk.2) (fun v hv => ?_) fun hn => ?_
          · rw [hv] at lk
            cases e : lookD l wk with
            | none => rw [e] at lk; exact lk.elim
            | some w' =>
              rw [e] at lk h
              exact Post.here h r v lk
          · rw [hn] at lk
            cases e : lookD l wk with
            | some w' => rw [e] at lk; exact lk.elim
            | none =>
              rw [e] at h
              refine h ρ _ (Ext.write e1) (r.write e1 ⟨_, upd_same, ?_⟩) z (rz.ext (Ext.write e1))
              exact RelG.tr (Ext.write e1).tr (putG_ok kyW_ok ek rz rg)
        | true =>
          obtain ⟨xs, d, rt⟩ := dt_in oa
          obtain ⟨k, ek⟩ := isTK_ky (w := wk) hk.1
          obtain ⟨b, rfl, tb⟩ := kyT_rel ek rk
          have lk := relT_look ek rt
          refine .q xs k b rfl d tb.sq (fun p hp => ?_) fun hn u ru => ?_
          · rw [hp] at lk
            cases e : lookD l wk with
            | none => rw [e] at lk; exact lk.elim
            | some w' =>
              rw [e] at lk h
              obtain ⟨v, k1, k2⟩ := lk
              exact ⟨v, k2, Post.here h r v k1⟩
          · rw [hn] at lk
            cases e : lookD l wk with
            | some w' => rw [e] at lk; exact lk.elim
            | none =>
              rw [e] at h
              have x' : Ext ρ H ρ (upd H a (dtq c a (storedH xs k b u))) := Ext.write e1
              refine h ρ _ x' (r.write e1 ⟨_, upd_same, ?_, d.hs, ?_, ?_⟩) z (rz.ext x')
              · have := putD_len l wk wz
                have : l.length < line := hk.2
                omega
              · exact stored_nd d.nd
              · exact (relT_put ek tb rz ru rt).tr x'.tr
      · exact h.elim
    · exact h.elim
  · exact h.elim
end
/-! ### as expressions -/
section
variable {X : Cx} {c : Cfg} [Pwx X c] {o e f : Expr} {apos cpos : Pos} {td ty tx : TE}
theorem pe_dget2Q (hu : X.A.units + 1 < cLine) (hK : X.K = c.K) (ho : PE X o td) (he : PE X e ty) (hf : PE X f tx) (m : M2 X o "get" apos e f cpos) :
    PE X (.Call (.Attribute o "get" apos) [e, f] [] cpos) (fun σ H Q => td σ H fun x H1 => ∃ a, x = .ref a ∧ IsDq c H1 a ∧ ty σ H1 fun y H2 => tx σ H2 fun z H3 => GetQ c H3 a y z Q) := by
  refine ⟨fun pins s σ H Q I h => ?_⟩
  refine wpAny_Call_method m.base m.few m.line PySem.F.plainAttrs_dict PySem.F.slot_dict_get PySem.F.type_dict_get (thn (ho.run pins s σ H _ I h) fun u s1 ⟨x, H1, I1, rx, a, ex, d, q1⟩ => ?_)
  subst ex
  obtain rfl : u = Value.ref a := rx
  obtain ⟨t1, t2, _⟩ := isDq_at hK I1 d
  refine ⟨t1, t2, ?_⟩
  rw [m.trees]
  refine Calls.callWith_builtin rfl (Calls.evalArgs_plain (Calls.spliced_cons (thn (he.run pins s1 σ H1 _ I1 q1) fun iv s2 ⟨y, H2, I2, ry, q2⟩ =>
    Calls.spliced_cons (thn (hf.run pins s2 σ H2 _ I2 q2) fun fv s3 ⟨z, H3, I3, rz, g⟩ => Calls.spliced_nil ?_))))
  exact get2_at hu hK I3 g ry rz
theorem pe_dget1Q (hu : X.A.units + 1 < cLine) (hK : X.K = c.K) (ho : PE X o td) (he : PE X e ty) (m : M1 X o "get" apos e cpos) :
    PE X (.Call (.Attribute o "get" apos) [e] [] cpos) (fun σ H Q => td σ H fun x H1 => ∃ a, x = .ref a ∧ IsDq c H1 a ∧ ty σ H1 fun y H2 => GetQ c H2 a y .non Q) := by
  refine ⟨fun pins s σ H Q I h => ?_⟩
  refine wpAny_Call_method m.base m.few m.line PySem.F.plainAttrs_dict PySem.F.slot_dict_get PySem.F.type_dict_get (thn (ho.run pins s σ H _ I h) fun u s1 ⟨x, H1, I1, rx, a, ex, d, q1⟩ => ?_)
  subst ex
  obtain rfl : u = Value.ref a := rx
  obtain ⟨t1, t2, _⟩ := isDq_at hK I1 d
  refine ⟨t1, t2, ?_⟩
  rw [m.trees]
  refine Calls.callWith_builtin rfl (Calls.evalArgs_plain (Calls.spliced_cons (thn (he.run pins s1 σ H1 _ I1 q1) fun iv s2 ⟨y, H2, I2, ry, g⟩ => Calls.spliced_nil ?_)))
  exact get1_at hu hK I2 g ry
theorem pe_dsetdQ (hu : X.A.units + 1 < cLine) (hK : X.K = c.K) (ho : PE X o td) (he : PE X e ty) (hf : PE X f tx) (m : M2 X o "setdefault" apos e f cpos) :
    PE X (.Call (.Attribute o "setdefault" apos) [e, f] [] cpos) (fun σ H Q => td σ H fun x H1 => ∃ a, x = .ref a ∧ IsDq c H1 a ∧ ty σ H1 fun y H2 => tx σ H2 fun z H3 => SetdQ c H3 a y z Q) := by
  refine ⟨fun pins s σ H Q I h => ?_⟩
  refine wpAny_Call_method m.base m.few m.line PySem.F.plainAttrs_dict PySem.F.slot_dict_setdefault PySem.F.type_dict_setdefault (thn (ho.run pins s σ H _ I h) fun u s1 ⟨x, H1, I1, rx, a, ex, d, q1⟩ => ?_)
  subst ex
  obtain rfl : u = Value.ref a := rx
  obtain ⟨t1, t2, _⟩ := isDq_at hK I1 d
  refine ⟨t1, t2, ?_⟩
  rw [m.trees]
  refine Calls.callWith_builtin rfl (Calls.evalArgs_plain (Calls.spliced_cons (thn (he.run pins s1 σ H1 _ I1 q1) fun iv s2 ⟨y, H2, I2, ry, q2⟩ =>
    Calls.spliced_cons (thn (hf.run pins s2 σ H2 _ I2 q2) fun fv s3 ⟨z, H3, I3, rz, g⟩ => Calls.spliced_nil ?_))))
  exact setd_at hu hK I3 g ry rz
/-- d.items() -/
theorem pe_itemsQ (hK : X.K = c.K) (ho : PE X o td) (hb : attributeBase o "items" X.env (eval o X.env) = eval o X.env) (hl : (apos.endLine == cpos.line) = true) :
    PE X (.Call (.Attribute o "items" apos) [] [] cpos) (fun σ H Q => td σ H fun x H1 => ∃ a xs, x = .ref a ∧ DtIn c H1 a xs ∧ ∀ p, H1 p = none → Q (.ref p) (upd H1 p (itemsO p a))) := by
  refine ⟨fun pins s σ H Q I h => ?_⟩
  refine wpAny_Call_method hb (by first | rfl | decide) hl PySem.F.plainAttrs_dict PySem.F.slot_dict_items PySem.F.type_dict_items (thn (ho.run pins s σ H _ I h) fun u s1 ⟨x, H1, I1, rx, a, xs, ex, d, q1⟩ => ?_)
  subst ex
  obtain rfl : u = Value.ref a := rx
  obtain ⟨t1, t2, _⟩ := isDq_at hK I1 (.q xs d)
  refine ⟨t1, t2, ?_⟩
  refine Calls.callWith_builtin rfl (PySem.evalArgs_none ?_)
  obtain ⟨ob, es, ho, hx, hdat, _⟩ := dtq_raw I1 d.e
  refine DT.callItems (es := es) (ep := xs.length) d.hs ⟨ob, ho, hx, hdat⟩ ?_
  have hf : H1 s1.heap.objs.size = none := I1.hok.fresh (Nat.le_refl _)
  exact ⟨.ref s1.heap.objs.size, upd H1 s1.heap.objs.size (itemsO s1.heap.objs.size a), I1.laid (t' := s1.toks) (fun b u e => Heap.get?_push_of_some _ e) (Nat.le_refl _) (itemsO_ok (Heap.get?_push_size _ rfl)), rfl, q1 _ hf⟩
end
section
variable {X : Cx} {c : Cfg} {Wx : WX} [Pwx X c] {o e f : Expr} {apos cpos : Pos} {eo ee ef : Env → St → R W}
theorem E_dget2 (hu : X.A.units + 64 < cLine) (hK : X.K = c.K) (ho : PE X o (tE c Wx eo)) (he : PE X e (tE c Wx ee)) (hf : PE X f (tE c Wx ef)) (m : M2 X o "get" apos e f cpos) :
    PE X (.Call (.Attribute o "get" apos) [e, f] [] cpos) (tE c Wx fun n s => (eo n s).bind fun d s => if isDf s d = true then (ee n s).bind fun k s => (ef n s).bind fun x s => dgetW s d k x else .bad) :=
  PE.weak (pe_dget2Q (by omega) hK ho he hf m) fun σ H Q h => by
    obtain ⟨ρ, st, env, r, re, h⟩ := h
    refine ⟨ρ, st, env, r, re, h.bind.imp fun w1 st1 ρ1 H1 _ x1 r1 h v1 rv1 => ?_⟩
    split at h
    · rename_i hd
      obtain ⟨a, rfl, q⟩ := isDq_of r1 rv1 hd
      refine ⟨a, rfl, q, ρ1, st1, env, r1, re.ext x1, h.bind.imp fun w2 st2 ρ2 H2 _ x2 r2 h v2 rv2 => ?_⟩
      refine ⟨ρ2, st2, env, r2, (re.ext x1).ext x2, h.bind.imp fun w3 st3 ρ3 H3 _ x3 r3 h v3 rv3 => ?_⟩
      exact getQ_of r3 ((rv1.ext x2).ext x3) (rv2.ext x3) rv3 h
    · exact h.elim
theorem E_dget1 (hu : X.A.units + 64 < cLine) (hK : X.K = c.K) (ho : PE X o (tE c Wx eo)) (he : PE X e (tE c Wx ee)) (m : M1 X o "get" apos e cpos) :
    PE X (.Call (.Attribute o "get" apos) [e] [] cpos) (tE c Wx fun n s => (eo n s).bind fun d s => if isDf s d = true then (ee n s).bind fun k s => dgetW s d k .non else .bad) :=
  PE.weak (pe_dget1Q (by omega) hK ho he m) fun σ H Q h => by
    obtain ⟨ρ, st, env, r, re, h⟩ := h
    refine ⟨ρ, st, env, r, re, h.bind.imp fun w1 st1 ρ1 H1 _ x1 r1 h v1 rv1 => ?_⟩
    split at h
    · rename_i hd
      obtain ⟨a, rfl, q⟩ := isDq_of r1 rv1 hd
      refine ⟨a, rfl, q, ρ1, st1, env, r1, re.ext x1, h.bind.imp fun w2 st2 ρ2 H2 _ x2 r2 h v2 rv2 => ?_⟩
      exact getQ_of r2 (rv1.ext x2) rv2 (by simp only [RelW]) h
    · exact h.elim
theorem E_sdf (hu : X.A.units + 64 < cLine) (hK : X.K = c.K) (ho : PE X o (tE c Wx eo)) (he : PE X e (tE c Wx ee)) (hf : PE X f (tE c Wx ef)) (m : M2 X o "setdefault" apos e f cpos) :
    PE X (.Call (.Attribute o "setdefault" apos) [e, f] [] cpos) (tE c Wx fun n s => (eo n s).bind fun d s => if isDf s d = true then (ee n s).bind fun k s => (ef n s).bind fun x s => sdfW s d k x else .bad) :=
  PE.weak (pe_dsetdQ (by omega) hK ho he hf m) fun σ H Q h => by
    obtain ⟨ρ, st, env, r, re, h⟩ := h
    refine ⟨ρ, st, env, r, re, h.bind.imp fun w1 st1 ρ1 H1 _ x1 r1 h v1 rv1 => ?_⟩
    split at h
    · rename_i hd
      obtain ⟨a, rfl, q⟩ := isDq_of r1 rv1 hd
      refine ⟨a, rfl, q, ρ1, st1, env, r1, re.ext x1, h.bind.imp fun w2 st2 ρ2 H2 _ x2 r2 h v2 rv2 => ?_⟩
      refine ⟨ρ2, st2, env, r2, (re.ext x1).ext x2, h.bind.imp fun w3 st3 ρ3 H3 _ x3 r3 h v3 rv3 => ?_⟩
      exact setdQ_of r3 ((rv1.ext x2).ext x3) (rv2.ext x3) rv3 h
    · exact h.elim
theorem m1_of {n : Str} {e : Expr} (h0 : notCall0 o = true) (hl : (apos.endLine == cpos.line) = true) (h1 : notStar e = true) : M1 X o n apos e cpos := by
  have ap := all_plain (env := X.env) (pos := cpos) (es := [e]) (by simpa using h1)
  have s1 := star_cons (env := X.env) (es := []) h1
  refine ⟨notCall0_base h0, ?_, hl, ?_⟩
  · rw [ap.1]; rfl
  · unfold backTo; rw [s1]; rfl
theorem m2_of {n : Str} {e f : Expr} (h0 : notCall0 o = true) (hl : (apos.endLine == cpos.line) = true) (h1 : notStar e = true) (h2 : notStar f = true) : M2 X o n apos e f cpos := by
  have ap := all_plain (env := X.env) (pos := cpos) (es := [e, f]) (by simp [h1, h2])
  have s1 := star_cons (env := X.env) (es := [f]) h1
  have s2 := star_cons (env := X.env) (es := []) h2
  refine ⟨notCall0_base h0, ?_, hl, ?_⟩
  · rw [ap.1]; rfl
  · unfold backTo; rw [s1, s2]; rfl
end
/-! ### dicts of the module -/
/-- at p stands a dict of the module -/
def KdOk (c : Cfg) (K : PySem.W.Frag) (w : World) (p : Addr) (t : List (List Nat × W)) : Prop :=
  (∃ es n, KDict K w p es n) ∧ ∀ s, (t.lookup s = none → PySem.W.nsIn K p (sS s) = some none) ∧ ∀ x, t.lookup s = some x → ∃ u v, PySem.W.nsIn K p (sS s) = some (some u) ∧ RelV v u ∧ ∀ ρ H, RelW c ρ H x v
section
variable {X : Cx} {c : Cfg} {Wx : WX} [Pwx X c] {a : Expr} {x : Str} {pos p : Pos} {ea : Env → St → R W} {t : List (List Nat × W)} {d : Addr}
theorem kd_is (D : KdOk c X.K X.w d t) (s : List Nat) : ∃ r, PySem.W.nsIn X.K d (sS s) = some r ∧ r.isSome = (t.lookup s).isSome := by
  cases e : t.lookup s with
  | none => exact ⟨none, (D.2 s).1 e, rfl⟩
  | some w =>
    obtain ⟨u, v, e1, _⟩ := (D.2 s).2 w e
    exact ⟨some u, e1, rfl⟩
theorem E_kin {o : CmpOp} {neg : Bool} (ho : (o = .In ∧ neg = false) ∨ (o = .NotIn ∧ neg = true)) (D : KdOk c X.K X.w d t) (hx : PE X (.Name x p) (tC (.ref d))) (ha : PE X a (tE c Wx ea)) (hm : behindInMarks o (.Name x p) = false) :
    PE X (.Compare a [o] [.Name x p] pos) (tE c Wx fun e s => (ea e s).bind fun x s => kinW neg t s x) := by
  obtain ⟨⟨es, n, K1⟩, K2⟩ := id D
  have fin : ∀ (b : Bool) σ H Q, tE c Wx (fun e s => (ea e s).bind fun x s => kinW neg t s x) σ H Q → tE c Wx ea σ H fun y H1 => ∃ s r, y = .str (sS s) ∧ PySem.W.nsIn X.K d (sS s) = some r ∧ Q (.bl (if neg then !r.isSome else r.isSome)) H1 := fun _ σ H Q h => by
    obtain ⟨ρ, st, env, r, re, h⟩ := h
    refine ⟨ρ, st, env, r, re, h.bind.imp fun w1 st1 ρ1 H1 _ x1 r1 h v1 rv1 => ?_⟩
    unfold kinW at h
    split at h
    · rename_i s e0
      simp only [RelW] at rv1
      obtain ⟨q, e1, e2⟩ := kd_is D s
      refine ⟨s, q, rv1, e1, ?_⟩
      rw [e2]
      exact Post.here h r1 _ (by simp only [RelW])
    · exact h.elim
  rcases ho with ⟨rfl, rfl⟩ | ⟨rfl, rfl⟩
  · refine PE.weak (pe_cmpR (op_in_kd K1) ha hx hm) fun σ H Q h => ?_
    obtain ⟨ρ, st, env, r, re, h⟩ := fin true σ H Q h
    refine ⟨ρ, st, env, r, re, h.imp fun w1 st1 ρ1 H1 _ x1 r1 h v1 rv1 => ?_⟩
    obtain ⟨s, q, e0, e1, h⟩ := h v1 rv1
    exact ⟨_, q, e0, rfl, e1, h⟩
  · refine PE.weak (pe_cmpR (op_notIn_kd K1) ha hx hm) fun σ H Q h => ?_
    obtain ⟨ρ, st, env, r, re, h⟩ := fin true σ H Q h
    refine ⟨ρ, st, env, r, re, h.imp fun w1 st1 ρ1 H1 _ x1 r1 h v1 rv1 => ?_⟩
    obtain ⟨s, q, e0, e1, h⟩ := h v1 rv1
    exact ⟨_, q, e0, rfl, e1, h⟩
theorem T_kin {o : CmpOp} {neg : Bool} (ho : (o = .In ∧ neg = false) ∨ (o = .NotIn ∧ neg = true)) (D : KdOk c X.K X.w d t) (hx : PE X (.Name x p) (tC (.ref d))) (ha : PE X a (tE c Wx ea)) (hm : behindInMarks o (.Name x p) = false) :
    PT X (.Compare a [o] [.Name x p] pos) (tT c Wx fun e s => (ea e s).bind fun x s => kinW neg t s x) := by
  obtain ⟨⟨es, n, K1⟩, K2⟩ := id D
  have fin : ∀ σ H Q, tT c Wx (fun e s => (ea e s).bind fun x s => kinW neg t s x) σ H Q → tE c Wx ea σ H fun y H1 => ∃ s r, y = .str (sS s) ∧ PySem.W.nsIn X.K d (sS s) = some r ∧ Q (if neg then !r.isSome else r.isSome) H1 := fun σ H Q h => by
    obtain ⟨ρ, st, env, r, re, h⟩ := h
    refine ⟨ρ, st, env, r, re, h.bind.imp fun w1 st1 ρ1 H1 _ x1 r1 h v1 rv1 => ?_⟩
    unfold kinW at h
    split at h
    · rename_i s e0
      simp only [RelW] at rv1
      obtain ⟨q, e1, e2⟩ := kd_is D s
      refine ⟨s, q, rv1, e1, ?_⟩
      rw [e2]
      obtain ⟨b, e3, z⟩ := Post.here h r1
      cases e3
      exact z
    · exact h.elim
  rcases ho with ⟨rfl, rfl⟩ | ⟨rfl, rfl⟩
  · refine PT.weak (pt_cmpR (op_in_kd K1) ha hx hm) fun σ H Q h => ?_
    obtain ⟨ρ, st, env, r, re, h⟩ := fin σ H Q h
    refine ⟨ρ, st, env, r, re, h.imp fun w1 st1 ρ1 H1 _ x1 r1 h v1 rv1 => ?_⟩
    obtain ⟨s, q, e0, e1, h⟩ := h v1 rv1
    exact ⟨_, q, e0, rfl, e1, ⟨_, rfl, h⟩⟩
  · refine PT.weak (pt_cmpR (op_notIn_kd K1) ha hx hm) fun σ H Q h => ?_
    obtain ⟨ρ, st, env, r, re, h⟩ := fin σ H Q h
    refine ⟨ρ, st, env, r, re, h.imp fun w1 st1 ρ1 H1 _ x1 r1 h v1 rv1 => ?_⟩
    obtain ⟨s, q, e0, e1, h⟩ := h v1 rv1
    exact ⟨_, q, e0, rfl, e1, ⟨_, rfl, h⟩⟩
theorem E_kix (D : KdOk c X.K X.w d t) (hx : PE X (.Name x p) (tC (.ref d))) (ha : PE X a (tE c Wx ea)) (hs : notSlice a = true) :
    PE X (.Subscript (.Name x p) a pos) (tE c Wx fun e s => (ea e s).bind fun x s => kixW t s x) := by
  obtain ⟨⟨es, n, K1⟩, K2⟩ := id D
  refine PE.weak (pe_ix ix_kdict hx ha (plainIx hs)) fun σ H Q h => ?_
  obtain ⟨ρ, st, env, r, re, h⟩ := h
  refine ⟨ρ, st, env, r, re, h.bind.imp fun w1 st1 ρ1 H1 _ x1 r1 h v1 rv1 => ?_⟩
  unfold kixW at h
  split at h
  · rename_i s e0
    simp only [RelW] at rv1
    cases e : t.lookup s with
    | none => rw [e] at h; exact h.elim
    | some w =>
      rw [e] at h
      obtain ⟨u, v, e1, ru, rw_⟩ := (K2 s).2 w e
      exact ⟨d, sS s, v, rfl, rv1, ⟨es, n, u, K1.at_, K1.lit, e1, ru⟩, Post.here h r1 _ (rw_ ρ1 H1)⟩
  · exact h.elim
end
end Px

set_option linter.all false
set_option maxRecDepth 100000
/-! PxI: own classes: instances are made, their methods are called, their fields read and set. -/
namespace Px
open PySem PySem.Spec PyProof.Rows L2

section
variable {X : Cx} {c : Cfg} {Wx : WX} {ea : Env → St → R W} {er : Env → St → R (List W)} {a d : Expr} {es : List Expr} {pos : Pos}

/-- C(..) runs: a new instance and its dict, then __init__ -/
theorem run_makeS {CX : CXT} {k : Nat} {f C : Addr} {fd : FuncData} {ps : List Str} {sp : Sp} {E : XK} {pins : List (Addr × Obj)} {σ : L2.St} {H : Hp} {s : Shared} {Q : VK} {us : List Value} {vs : List V} (M : Mk X.K C f) (F : FnOk X.prog X.w X.K X.mg X.base CX k f fd ps sp) (hr : Room (k + 1) X.A) (hb : Binds X.K fd ps [])
    (hx : PassesAt CX X σ E) (I : Inv X pins σ H s) (r : Vals vs us)
    (h : ∀ x dx, H x = none → H dx = none → dx ≠ x → sp (.ref x :: vs) (upd (upd H dx (.own x)) x (.ins C dx [])) (fun v H2 => v = .non ∧ Q (.ref x) H2) E) :
    wpAny (model X.prog X.w) X.A (call (.ref C) us) (EP X pins σ Q) X.xe s := by
  have hq := h (s.heap.objs.size + 1) s.heap.objs.size (I.hok.fresh (Nat.le_succ _)) (I.hok.fresh (Nat.le_refl _)) (Nat.ne_of_lt (Nat.lt_succ_self _))
  have I2 := Inv.made (C := C) I
  have r2 : Vals (V.ref (s.heap.objs.size + 1) :: vs) (Value.ref (s.heap.objs.size + 1) :: us) := .cons rfl r
  have hl : ((Value.ref (s.heap.objs.size + 1) :: us) ++ []).length = ps.length := by
    have e := r2.length
    rw [F.len _ _ _ _ hq] at e
    rw [List.append_nil]
    exact e.symm
  refine wpAny_call (make_map (f := f) I.kIn M.makes M.init (beq_iff_eq.mp M.fn) (codeAny_mono (F.run _ X.stack _ _ ⟨Value.ref (s.heap.objs.size + 1) :: us, []⟩ (Value.ref (s.heap.objs.size + 1) :: us) _ _ E (hr.make C us [])
    (I2.env0.make C us []) (by have z := hb _ (Value.ref (s.heap.objs.size + 1) :: us) I2.kIn hl; rwa [List.append_nil] at z) r2 hq) fun r s' hq' => ?_))
  cases r with
  | error e => exact hx pins _ _ e s' I2 hq'
  | ok fl =>
    cases fl with
    | ret u =>
      obtain ⟨v, H', I3, rv, ev, q3⟩ := I2.after hq'
      subst ev
      exact ⟨rv, ⟨V.ref (s.heap.objs.size + 1), H', I3, rfl, q3⟩⟩
    | next => exact False.elim hq'
    | brk => exact False.elim hq'
    | cont => exact False.elim hq'
/-- what is to be shown of __init__ -/
theorem mkI_post {ρ : Rho} {H : Hp} {st : St} {ws : List W} {vs : List V} {x dx : Addr} {n g : Nat} {cl : Nat → List W → St → R W} {Q : VK} {E : XK} (r : Rel c ρ H st) (rv : RelL c ρ H ws vs) (own : (c.nm.own.lookup n).isSome = true) (hx : H x = none) (hdx : H dx = none) (ne : dx ≠ x)
    (h : Post c E ρ H (mkI cl n g ws st) (QV c Q)) : spF c (cl g) (.ref x :: vs) (upd (upd H dx (.own x)) x (.ins (c.A n) dx [])) (fun v H2 => v = .non ∧ Q (.ref x) H2) E := by
  have hx' : upd H dx (.own x) x = none := by rw [upd_ne (Ne.symm ne)]; exact hx
  have r1 : Rel c ρ (upd H dx (.own x)) st := r.fresh hdx
  have x1 : Ext ρ H (ρ.push x) (upd (upd H dx (.own x)) x (.ins (c.A n) dx [])) := (Ext.fresh hdx).trans (Ext.push hx')
  have rw1 : RelW c (ρ.push x) (upd (upd H dx (.own x)) x (.ins (c.A n) dx [])) (.ref st.length) (.ref x) := RelW.ref_new r1
  refine ⟨ρ.push x, st ++ [.ins n []], .ref st.length :: ws, r1.push (u := .ins n []) hx' ⟨own, dx, [], upd_same, .nil⟩, RelL.cons rw1 (rv.ext x1), ?_⟩
  unfold mkI at h
  split at h
  · rename_i s2 e
    rw [e]
    intro ρ' H' x' r' v rv'
    refine ⟨rel_non rv', h ρ' H' (x1.trans x') r' _ (rw1.ext x')⟩
  · rename_i k l s2 e
    rw [e]
    exact fun ρ' H' cls d x' r' z => h ρ' H' cls d (x1.trans x') r' z
  · exact h.elim
theorem E_mk {f : Addr} {fd : FuncData} {ps : List Str} {k n g : Nat} {cl : Nat → List W → St → R W} {x : Str} {p : Pos} (M : Mk X.K (c.A n) f) (F : FnOk X.prog X.w X.K X.mg X.base (L2.CX X.prog X.w) k f fd ps (spF c (cl g))) (hr : Room (k + 1) X.A) (hg : Gl X x) (hm : X.mg x = some (.ref (c.A n)))
    (hb : Binds X.K fd ps []) (own : (c.nm.own.lookup n).isSome = true) (tk : Takes X Wx) (hdb : (x == ("__debug__" : Str)) = false) (hst : ∀ e ∈ es, notStar e = true) (ha : PA X es (tEs c Wx er)) (h0 : es = [] → er = fun _ s => .ok [] s) :
    PE X (.Call (.Name x p) es [] pos) (tE c Wx fun e s => (er e s).bind fun ws s => mkI cl n g ws s) := by
  refine ⟨fun pins s σ H Q I h => ?_⟩
  obtain ⟨ρ, st, env, r, re, h⟩ := h
  refine wpAny_Call_Name_kw (ld_glob I hg hm ?_ hdb)
  cases es with
  | nil =>
    rw [h0 rfl] at h
    have h : Post c (fun k d H' => Wx k d σ H') ρ H (mkI cl n g [] st) (QV c Q) := h
    exact PySem.W.callWith_K0 I.kIn M.kp (run_makeS (us := []) (vs := []) (E := WE Wx σ) M F hr hb (passAt tk σ) I .nil fun x dx hx hdx ne => mkI_post r RelL.nil own hx hdx ne h)
  | cons a es =>
    have ap := all_plain (env := X.env) (pos := pos) (es := es) fun e he => hst e (List.mem_cons_of_mem _ he)
    refine PySem.W.callWith_K (h₀ := X.base) I.ok.mod.kin M.kp (thn (ha.run pos pins s σ H (fun vs H1 => ∃ ρ st ws, Rel c ρ H1 st ∧ RelL c ρ H1 ws vs ∧ Post c (fun k d H' => Wx k d σ H') ρ H1 (mkI cl n g ws st) (QV c Q)) I ⟨ρ, st, env, r, re, h.bind.imp fun ws st1 ρ1 H1 e x1 r1 h vs rv => ⟨ρ1, st1, ws, r1, rv, h⟩⟩) fun us s1 ⟨vs, H1, I1, rv, q⟩ => ⟨I1.kIn, ?_⟩) (star_cons (hst a List.mem_cons_self)) ap.2
    obtain ⟨ρ1, st1, ws, r1, rs, h⟩ := q
    exact run_makeS (E := WE Wx σ) M F hr hb (passAt tk σ) I1 rv fun x dx hx hdx ne => mkI_post r1 rs own hx hdx ne h
/-! methods -/
theorem RelF.fld {ρ : Rho} {H : Hp} {m : Str} : ∀ {fs : List (Nat × W)} {gs : List (Str × V)}, RelF c ρ H fs gs → m ∉ c.nm.fld → gs.lookup m = none
  | [], _, r, _ => by cases r; rfl
  | p :: fs, _, r, h => by
    cases r with
    | @cons _ q _ qs r1 r2 =>
      have ne : (m == q.1) = false := by
        rw [beq_eq_false_iff_ne]
        intro e
        exact h (by rw [e]; exact List.mem_of_getElem? r1.1)
      obtain ⟨q1, q2⟩ := q
      rw [List.lookup_cons, ne]
      exact RelF.fld r2 h
theorem insOf_at {ρ : Rho} {H : Hp} {st : St} {w : W} {x : V} {n : Nat} (r : Rel c ρ H st) (r1 : RelW c ρ H w x) (h : insOf st w = some n) : ∃ a dx fs gs, x = .ref a ∧ H a = some (.ins (c.A n) dx gs) ∧ RelF c ρ H fs gs := by
  unfold insOf at h
  split at h
  · split at h
    · rename_i n' k fs e
      cases h
      simp only [RelW] at r1
      obtain ⟨a, e1, rfl⟩ := r1
      obtain ⟨a', e2, _, dx, gs, e3, rf⟩ := r.at_n e
      rw [e1] at e2; cases e2
      exact ⟨a, dx, fs, gs, rfl, e3, rf⟩
    · cases h
  · cases h
theorem E_mine {f : Addr} {fd : FuncData} {ps : List Str} {k n g : Nat} {m : Str} {cl : Nat → List W → St → R W} {mt : Nat → Nat → Option Nat} {apos : Pos} (C : Cls X.K (c.A n)) (M : Meth X.K (c.A n) m f) (F : FnOk X.prog X.w X.K X.mg X.base (L2.CX X.prog X.w) k f fd ps (spF c (cl g))) (hr : Room k X.A)
    {dvs : List V} {us0 : List Value} {ds : List W} (hb : Binds X.K fd ps us0) (hdv : Vals dvs us0) (hds : ∀ ρ H, RelL c ρ H ds dvs) (hm : m ∉ c.nm.fld) (tk : Takes X Wx) (h0 : notCall0 d = true) (hl : (apos.endLine == pos.line) = true) (hst : ∀ e ∈ es, notStar e = true) (hle : es.length < 20) (hd : PE X d (tE c Wx ea)) (ha : PA X es (tEs c Wx er)) (he0 : es = [] → er = fun _ s => .ok [] s) :
    PE X (.Call (.Attribute d m apos) es [] pos) (tE c Wx fun e s => (ea e s).bind fun x s => if insOf s x = some n ∧ mt n g = none then (er e s).bind fun ws s => cl g (x :: (ws ++ ds)) s else .bad) := by
  refine ⟨fun pins s σ H Q I h => ?_⟩
  obtain ⟨ρ, st, env, r, re, h⟩ := h
  have ap := all_plain (env := X.env) (pos := pos) (es := es) hst
  have hform : methodCallForm (es.length + ([] : List Keyword).length) (backTo pos (starEach es X.env)) (backToKw pos (keywordEach [] X.env)) = true := by
    show ((backTo pos (starEach es X.env)).all (fun x => !x.1) && _ && decide (es.length + 0 + 0 < 30)) = true
    rw [ap.1, decide_eq_true (by omega)]
    rfl
  have hpos : methodCallPos true d X.env apos pos = pure pos := by unfold methodCallPos; simp [hl]
  rw [arm_eval_Call, notCall0_base h0]
  refine wpAny_bind (wpAny_mono (hd.run pins s σ H (fun x H1 => ∃ ρ1 st1 w, Rel c ρ1 H1 st1 ∧ REnv c ρ1 H1 env σ ∧ RelW c ρ1 H1 w x ∧ Post c (fun k d H' => Wx k d σ H') ρ1 H1 (if insOf st1 w = some n ∧ mt n g = none then (er env st1).bind fun ws s => cl g (w :: (ws ++ ds)) s else .bad) (QV c Q)) I ⟨ρ, st, env, r, re, h.bind.imp fun w st1 ρ1 H1 _ x1 r1 h y rv => ⟨ρ1, st1, w, r1, re.ext x1, rv, h⟩⟩) (fun u s1 hh => ?_) fun _ _ e => e)
  obtain ⟨x, H1, I1, rx, ρ1, st1, w, r1, re1, rv, h⟩ := hh
  split at h
  · rename_i hi
    obtain ⟨a, dx, fs, gs, rfl, ea', rf⟩ := insOf_at r1 rv hi.1
    obtain rfl : u = Value.ref a := rx
    refine wpAny_bind (wpAny_standAt ?_)
    unfold methodCall
    rw [hform]
    refine wpAny_bind (wpAny_holding ?_)
    refine getmeth_ok I1 ea' C M (rf.fld hm) ?_
    refine wpAny_bind (wpAny_of_eq hpos ?_)
    cases es with
    | nil =>
      rw [he0 rfl] at h
      have h : Post c (fun k d H' => Wx k d σ H') ρ1 H1 (cl g (w :: ds) st1) (QV c Q) := h
      exact PySem.W.callWith_K0 (first := [.ref a]) I1.kIn M.kp (run_fnSD (us := [.ref a]) (vs := [.ref a]) (dvs := dvs) (ds := us0) (E := WE Wx) F hr hb hdv (passAt tk σ) I1 (.cons rfl .nil) ⟨ρ1, st1, w :: ds, r1, RelL.cons rv (hds ρ1 H1), h⟩)
    | cons b es =>
      have ap := all_plain (env := X.env) (pos := pos) (es := es) fun e he => hst e (List.mem_cons_of_mem _ he)
      refine PySem.W.callWith_K (first := [.ref a]) (h₀ := X.base) I.ok.mod.kin M.kp (thn (ha.run pos pins s1 σ H1 (fun vs H2 => ∃ ρ st ws, Rel c ρ H2 st ∧ RelL c ρ H2 ws (.ref a :: (vs ++ dvs)) ∧ Post c (fun k d H' => Wx k d σ H') ρ H2 (cl g ws st) (QV c Q)) I1 ⟨ρ1, st1, env, r1, re1, h.bind.imp fun ws st2 ρ2 H2 e x2 r2 h vs rvs => ⟨ρ2, st2, w :: (ws ++ ds), r2, RelL.cons (rv.ext x2) (rvs.append (hds ρ2 H2)), h⟩⟩) fun us s2 ⟨vs, H2, I2, rvs, q⟩ => ⟨I2.kIn, ?_⟩) (star_cons (hst b List.mem_cons_self)) ap.2
      obtain ⟨ρ2, st2, ws, r2, rs, h⟩ := q
      exact run_fnSD (us := .ref a :: us) (vs := .ref a :: vs) (dvs := dvs) (ds := us0) (E := WE Wx) F hr hb hdv (passAt tk σ) I2 (.cons rfl rvs) ⟨ρ2, st2, ws, r2, rs, h⟩
  · exact h.elim
end
end Px

set_option linter.all false
set_option maxRecDepth 100000
/-! PxS: sorted(d.items()), d a dict whose keys are tuples. -/
namespace Px
open PySem PySem.Spec PyProof.Rows L2 L2.DX

mutual
theorem reads_in {h : Heap} : ∀ {v : Value} {d : PyData} {as : List Addr}, Reads h v d as → ∀ a ∈ as, a < h.objs.size
  | _, _, _, .none, a, m => by cases m
  | _, _, _, .bool b, a, m => by cases m
  | _, _, _, .int i t, a, m => by cases m
  | _, _, _, .str x t, a, m => by cases m
  | _, _, _, .list h1 h2 h3 h4, a, m => by
    rcases List.mem_cons.mp m with e | m
    · subst e; exact Heap.lt_size h1
    · exact readsAll_in h4 a m
  | _, _, _, .tuple h1 h2 h3 h4, a, m => readsAll_in h4 a m
  | _, _, _, .dict h1 h2 h3 h4 h5, a, m => by
    rcases List.mem_append.mp m with m | m
    · rcases List.mem_cons.mp m with e | m
      · subst e; exact Heap.lt_size h1
      · exact readsAll_in h4 a m
    · exact readsAll_in h5 a m
theorem readsAll_in {h : Heap} : ∀ {vs : List Value} {ds : List PyData} {as : List Addr}, ReadsAll h vs ds as → ∀ a ∈ as, a < h.objs.size
  | _, _, _, .nil, a, m => by cases m
  | _, _, _, .cons h1 h2, a, m => by
    rcases List.mem_append.mp m with m | m
    · exact reads_in h1 a m
    · exact readsAll_in h2 a m
end
section
variable {X : Cx} {c : Cfg} {Wx : WX} {ρ : Rho} {H H2 : Hp} {st : St}
theorem Ext.more (k : ∀ b o, H b = some o → H2 b = some o) : Ext ρ H ρ H2 := ⟨List.prefix_refl _, rfl, fun a o h _ => k a o h, fun _ m => .inl m⟩
theorem Rel.more (r : Rel c ρ H st) (k : ∀ b o, H b = some o → H2 b = some o) : Rel c ρ H2 st := by
  refine ⟨r.len, r.nd, fun i u a e1 e2 => ?_, fun a m => ?_⟩
  · obtain ⟨z, q⟩ := (r.at_ i u a e1 e2).some_
    exact (r.at_ i u a e1 e2).ext (Ext.more k) (by rw [q]; exact k a z q)
  · obtain ⟨n, z, q, nt⟩ := r.hd a m
    exact ⟨n, z, k a z q, nt⟩
theorem Post.ext {E : XK} {ρ' : Rho} {H' : Hp} {α : Type} {r : R α} {Q : α → St → Rho → Hp → Prop} (h : Post c E ρ H r Q) (x : Ext ρ H ρ' H') : Post c E ρ' H' r Q := by
  cases r with
  | bad => exact h
  | exc _ _ _ => exact fun ρ1 H1 cls d y r1 z => h ρ1 H1 cls d (x.trans y) r1 z
  | ok a s => exact fun ρ1 H1 y r1 => h ρ1 H1 (x.trans y) r1
theorem relL_get : ∀ {ws : List W} {vs : List V}, ws.length = vs.length → (∀ (j : Nat) w v, ws[j]? = some w → vs[j]? = some v → RelW c ρ H w v) → RelL c ρ H ws vs
  | [], [], _, _ => RelL.nil
  | [], _ :: _, h, _ => by cases h
  | _ :: _, [], h, _ => by cases h
  | w :: ws, v :: vs, h, k => RelL.cons (k 0 w v rfl rfl) (relL_get (by simpa using h) fun j w' v' e1 e2 => k (j + 1) w' v' (by simpa using e1) (by simpa using e2))
theorem paired_at {α β : Type} {F : α → β → Prop} : ∀ {l : List α} {m : List β} {j : Nat} {y : α} {x : β}, Paired F l m → l[j]? = some y → m[j]? = some x → F y x
  | _, _, j, y, x, .nil, h, _ => by simp at h
  | _, _, 0, y, x, .cons f _, h, h2 => by
    simp at h h2
    subst h h2
    exact f
  | _, _, j + 1, y, x, .cons _ t, h, h2 => paired_at (j := j) t (by simpa using h) (by simpa using h2)
theorem refs_vals : ∀ as : List Addr, Vals (as.map V.ref) (as.map Value.ref)
  | [] => .nil
  | _ :: as => .cons rfl (refs_vals as)
/-- what may be sorted -/
theorem srt_parts {l : List W} (ok : srtOk l = true) : datL 59 l = true ∧ PySem.W.AllAlike (l.map toD) ∧ PySem.W.Sortable (l.map toD) ∧ l.length ≤ line := by
  unfold srtOk at ok
  simp only [Bool.and_eq_true, decide_eq_true_eq, List.all_eq_true, Bool.or_eq_true] at ok
  obtain ⟨⟨⟨k1, k2⟩, k3⟩, k4⟩ := ok
  refine ⟨k1, fun d hd d' hd' => ?_, ?_, k4⟩
  · obtain ⟨w, hw, rfl⟩ := List.mem_map.mp hd
    obtain ⟨w', hw', rfl⟩ := List.mem_map.mp hd'
    exact k2 w hw w' hw'
  · rcases k3 with k3 | k3
    · refine .inl fun d hd => ?_
      obtain ⟨w, hw, rfl⟩ := List.mem_map.mp hd
      have := k3 w hw
      unfold isTup1 at this
      split at this
      · rename_i y ys; exact ⟨toD y, toDs ys, by simp only [toD, toDs]⟩
      · cases this
    · refine .inr fun d hd => ?_
      obtain ⟨w, hw, rfl⟩ := List.mem_map.mp hd
      have := k3 w hw
      cases w <;> first | (simp [isPlain] at this; done) | (refine ⟨by simp [toD], fun xs => by simp [toD]⟩)
def rSit (c : Cfg) (fz : Bool) : List V → Hp → VK → Prop := fun vs H Q => ∃ (p a : Addr) (l : List (W × W)) (ρ : Rho) (st : St), vs = [.ref p] ∧ H p = some (itemsO p a) ∧ Rel c ρ H st ∧ ObjAt c ρ H a (.dict true l) ∧ srtOk (prs l) = true ∧ Post c (fun _ _ _ => False) ρ H (newL fz (srt (prs l)) st) (QV c Q)
theorem call_sit [Pwx X c] (hc : X.calm = true) (hu : X.A.units + 64 < cLine) (hK : X.K = c.K) {fz : Bool} : CallR X (.builtin "sorted") (rSit c fz) := by
  intro pins s σ H xs us Q I rv h
  obtain ⟨p, a, l, ρ, st, rfl, hp, r, oa, ok, h⟩ := h
  obtain rfl := Vals.ref1 rv
  obtain ⟨xs', di, rt⟩ := dt_in oa
  have view : s.heap.IsItemsView p a := (show ObjOk X.prog X.w H s.heap p (itemsO p a) from I.hok p _ hp).1
  obtain ⟨o, es, ho, hx, hdat, hes⟩ := dtq_raw I di.e
  have l0 : l.length = xs'.length := relT_len rt
  have l2 : es.size = xs'.length := size_of_entries hes
  have hz := di.hz
  have hz2 : es.size ≤ sizeLine := by rw [sizeLine_eq]; have : xs'.length ≤ 16777216 := hz; omega
  refine DT.sortedI (es := es) (ep := xs'.length) (I.ok.hd hc) view ⟨o, ho, hx, hdat⟩ hz2 fun h' tk as hk hlt hl hG => ?_
  have nd : as.Nodup := List.Pairwise.imp (fun h => Nat.ne_of_lt h) hG.rise
  have I1 : Inv X pins σ H { s with heap := h', toks := tk } := I.kept (t' := tk) hk
  obtain ⟨H1, I2, gr, qt⟩ := takeT (P := fun b vs => ∃ (j : Nat) (x : List L2.Key × Addr × Value) (pr : W × W) (v : V), as[j]? = some b ∧ l[j]? = some pr ∧ xs'[j]? = some x ∧ vs = [.ref x.2.1, v] ∧ RelW c ρ H pr.2 v) I as H I1 nd fun b hb => by
    obtain ⟨j, hj⟩ := List.mem_iff_getElem?.mp hb
    obtain ⟨en, he, hg⟩ := hG.pairs j b hj
    rw [entry_at hes j] at he
    cases hxj : xs'[j]? with
    | none =>
      rw [hxj] at he
      exact nomatch (show (none : Option DictEntry) = some en from he)
    | some x =>
      rw [hxj] at he
      have een : entryOfKey (tupleKind (mixKind X.prog X.w)) x = en := Option.some.inj he
      have hlj : j < l.length := by have := (List.getElem?_eq_some_iff.mp hxj).1; omega
      have elj : l[j]? = some l[j] := List.getElem?_eq_getElem hlj
      obtain ⟨q1, q2, v, q3, q4⟩ := paired_at rt elj hxj
      have hbl : s.heap.objs.size ≤ b := Nat.le_of_lt (hG.above b hb)
      refine ⟨hbl, I.hok.fresh hbl, [.ref x.2.1, v], ⟨j, x, l[j], v, hj, elj, hxj, rfl, q3⟩, fun H3 => ⟨(by rw [sizeLine_eq]; show 2 ≤ 16777216; omega), [Value.ref x.2.1, x.2.2], .cons rfl (.cons q4 .nil), ⟨_, hg, rfl, 0, ?_⟩⟩⟩
      rw [← een]
      rfl
  have x1 : Ext ρ H ρ H1 := Ext.more gr
  have r1 : Rel c ρ H1 st := r.more gr
  have lp : (prs l).length = l.length := by unfold prs; rw [List.length_map]
  have RL : RelL c ρ H1 (prs l) (as.map V.ref) := by
    refine relL_get (by rw [lp, List.length_map]; omega) fun j w v e1 e2 => ?_
    unfold prs at e1
    rw [List.getElem?_map] at e1 e2
    cases elj : l[j]? with
    | none => rw [elj] at e1; cases e1
    | some pr =>
      cases eaj : as[j]? with
      | none => rw [eaj] at e2; cases e2
      | some b =>
        rw [elj] at e1
        rw [eaj] at e2
        cases e1
        cases e2
        obtain ⟨vs, ⟨i, x, pr', v', j1, j2, j3, ev, hrv⟩, hH⟩ := qt b (List.mem_of_getElem? eaj)
        have eij : i = j := (List.getElem?_inj (List.getElem?_eq_some_iff.mp j1).1 nd).mp (j1.trans eaj.symm)
        subst eij
        rw [elj] at j2; cases j2
        have rr := paired_at rt elj j3
        rw [ev] at hH
        simp only [RelW]
        refine ⟨b, _, rfl, .inl ⟨hH, r1.tup_out hH⟩, RelL.cons ((kyT_back rr.1 rr.2.1).ext x1) (RelL.cons (hrv.ext x1) RelL.nil)⟩
  obtain ⟨k1, k2, k3, k4⟩ := srt_parts ok
  have hob : (h'.push { cls := .type "list", data := .seq (as.map Value.ref).toArray }).get? h'.objs.size = some (seqObj "list" (as.map Value.ref).toArray 0) := Heap.get?_push_size _ rfl
  have ka : ∀ b o, h'.get? b = some o → (h'.push { cls := .type "list", data := .seq (as.map Value.ref).toArray }).get? b = some o := fun b o e => Heap.get?_push_of_some _ e
  generalize hh2 : h'.push { cls := .type "list", data := .seq (as.map Value.ref).toArray } = h2 at hob ka ⊢
  have vr := refs_vals as
  have E := each_of RL vr
  have ER : PySem.W.EachIs (fun v b => ∃ ads, Reads h2 v (toD b) ads ∧ h'.objs.size ∉ ads) (as.map Value.ref) (prs l) := by
    refine each_and (P := fun w => dat 59 w = true) (fun u w hw hx => ?_) E (datL_mem k1)
    obtain ⟨x, h1, h3⟩ := hx
    have hD := toD_ok 59 w x hw h3
    rw [← hK] at hD
    obtain ⟨ads, rd⟩ := Dp.reads I2 _ _ _ hD h1
    exact ⟨ads, Reads.keeps (h := h') ka rd, fun m => Nat.lt_irrefl _ (reads_in (h := h') rd _ m)⟩
  refine PySem.W.list_sort_data (s := { s with heap := h2, toks := tk }) (R := StF c ρ H1) (bs := prs l) (enc := toD) hob E ER k2 k3 (by rw [sizeLine_eq]; exact k4) (fun w hw => ?_) fun out hl' EO => ?_
  · have := (toD_lay 59 w (datL_mem k1 w hw)).2
    show X.A.units + 1 + 1 + _ < cLine
    omega
  · show EP X pins σ Q (.ref h'.objs.size) { s with heap := sortedHeap h2 h'.objs.size (as.map Value.ref) (List.toArray out), toks := tk }
    obtain ⟨ys, y1, y2⟩ := each_back EO
    have kF : ∀ b o, h'.get? b = some o → (sortedHeap h2 h'.objs.size (as.map Value.ref) (List.toArray out)).get? b = some o := fun b o e => (PyProof.Rows.sortedHeap_old (Nat.ne_of_lt (Heap.lt_size e)) (Heap.lt_size (ka b o e))).trans (ka b o e)
    obtain ⟨eF, heF⟩ := PyProof.Rows.sortedHeap_at (vs := as.map Value.ref) (out := List.toArray out) hob
    have I3 : Inv X pins σ H1 { s with heap := sortedHeap h2 h'.objs.size (as.map Value.ref) (List.toArray out), toks := tk } := I2.kept (t' := tk) kF
    have hn0 : H1 h'.objs.size = none := I2.hok.fresh (Nat.le_refl _)
    have ly : ys.length ≤ sizeLine := by
      rw [← y1.length, List.length_mergeSort, sizeLine_eq]; exact k4
    have I4 := I3.take (h' := sortedHeap h2 h'.objs.size (as.map Value.ref) (List.toArray out)) (t' := tk) (it := h'.objs.size) (o := .lst ys) (fun b ob _ e => e) (I2.fpOk (Nat.le_refl _) hn0) ⟨ly, out, eF, y2, heF⟩
    exact ⟨.ref h'.objs.size, _, I4, rfl, newL_at (h.ext x1) r1 y1 _ hn0⟩
theorem E_sit [Pwx X c] {fz : Bool} {a : Expr} {ea : Env → St → R W} {p ap p2 pos : Pos} (hca : X.calm = true) (hu : X.A.units + 64 < cLine) (hK : X.K = c.K) (hg : Gl X "sorted") (hm : X.mg "sorted" = none) (h0 : notCall0 a = true) (hl : (ap.endLine == p2.line) = true) (ha : PE X a (tE c Wx ea)) :
    PE X (.Call (.Name "sorted" p) [.Call (.Attribute a "items" ap) [] [] p2] [] pos) (tE c Wx fun e s => (ea e s).bind fun x s => sitW fz s x) := by
  have hv : bootBuiltins "sorted" = some (.builtin "sorted") := by decide +kernel
  have inner := pe_itemsQ (c := c) (cpos := p2) hK ha (notCall0_base h0) hl
  have base := pe_callB (pos := pos) (p := p) (call_sit (X := X) (c := c) hca hu hK (fz := fz)) hg hm hv (pa_cons inner pa_nil (star_cons rfl)) (by decide) (by decide) (star_cons rfl) rfl
  refine PE.weak base fun σ H Q h => ?_
  obtain ⟨ρ, st, env, r, re, h⟩ := h
  refine ⟨ρ, st, env, r, re, h.bind.imp fun w st1 ρ1 H1 e x1 r1 h v rv => ?_⟩
  unfold sitW at h
  split at h
  · rename_i l e2
    split at h
    · rename_i ok
      obtain ⟨a', rfl, qa⟩ := dictOf_at r1 rv e2
      obtain ⟨xs', di, rt⟩ := dt_in qa
      refine ⟨a', xs', rfl, di, fun q hq => ?_⟩
      have xq : Ext ρ1 H1 ρ1 (upd H1 q (itemsO q a')) := Ext.fresh hq
      have ne : a' ≠ q := fun z => by subst z; rw [di.e] at hq; cases hq
      refine ⟨q, a', l, ρ1, st1, rfl, upd_same, r1.fresh hq, qa.tr xq.tr (upd_ne ne), ok, (h.nox (nox_newL fz _ st1)).ext xq⟩
    · exact h.elim
  · exact h.elim
end
end Px

set_option linter.all false
set_option maxRecDepth 100000
set_option maxHeartbeats 2000000
/-! PxR: list(reversed(x)). -/
namespace Px
open PySem PySem.Spec PyProof.Rows L2 RT

section
variable {prog : Program} {w : World} {A : Around} {E : Value → Shared → Prop} {s : Shared}
/-- where an item of the turned list stood -/
abbrev RevAt (us : Array Value) : Nat → Value → Prop := fun i v => us[us.size - 1 - i]? = some v
/-- a new list takes what a turned list has left: all -/
theorem rev_init {it l S : Addr} {us : Array Value} {R : Result → Shared → Prop} (hh : A.handled = none) (hit : s.heap.IsRevIter it l ((us.size : Int) - 1)) (hl : s.heap.IsList l us) (hne : l ≠ it) (hn : us.size ≤ sizeLine)
    (nSi : S ≠ it) (nSl : S ≠ l) (hS : s.heap.get? S = some { cls := .type "list", data := .seq #[] })
    (hR : ∀ (h' : Heap) (tk : Nat) (acc : Array Value) (n : Nat), (∀ b o, b ≠ S → b ≠ it → s.heap.get? b = some o → h'.get? b = some o) → h'.get? S = some { cls := .type "list", dict := none, data := .seq acc n, slots := #[] } → ItemsOf (RevAt us) acc us.size → R (.ok (.ret .none)) { s with heap := h', toks := tk }) :
    wpAny (model prog w) A.in1 (Builtin.«list.__init__» ⟨[.ref S, .ref it], []⟩)
      (fun fin s' => match fin with | .done f => R (.ok f) s' | .again c' => c'.quiet = true ∧ codeAny (model prog w) A c' R s') (fun e s' => R (.error e) s') s := by
  have W := (Walks.listRev (prog := prog) (w := w) (A := A.in1) hh it l hne us).toS
  have hSf : S ∉ [it, l] := by simp only [List.mem_cons, List.not_mem_nil, or_false, not_or]; exact ⟨nSi, nSl⟩
  show wpAny _ A.in1 (do let old ← Builtin.List.listItems (.ref S); Builtin.List.listUpdate (.ref S) (fun _ => #[]); letGo old.toList.reverse; Builtin.List.listExtendWith (.ref S) (.ref it) .none) _ _ s
  refine wpAny_bind ?_
  unfold Builtin.List.listItems
  refine wpAny_bind (wpAny_seqItems hS rfl (wpAny_pure ?_))
  show wpAny _ A.in1 (updateSeq S (fun _ => #[]) >>= fun _ => letGo (#[] : Array Value).toList.reverse >>= fun _ => Builtin.List.listExtendWith (.ref S) (.ref it) .none) _ _ s
  refine wpAny_bind (wpAny_updateSeq hS rfl ?_)
  have hS1 := Heap.get?_update_self (Obj.mapSeq (fun _ => (#[] : Array Value))) hS rfl
  have oth : ∀ b o, b ≠ S → s.heap.get? b = some o → (s.heap.update S (Obj.mapSeq (fun _ => (#[] : Array Value)))).get? b = some o := fun b o hb e => (Heap.get?_update_other _ _ (Ne.symm hb)).trans e
  refine wpAny_bind (wpAny_letGo ?_)
  have hit1 : (s.heap.update S (Obj.mapSeq (fun _ => (#[] : Array Value)))).IsRevIter it l ((us.size : Int) - 1) := hit.at fun o e => oth it o (Ne.symm nSi) e
  have hl1 : (s.heap.update S (Obj.mapSeq (fun _ => (#[] : Array Value)))).IsList l us := hl.at fun o e => oth l o (Ne.symm nSl) e
  have hT : ({ s with heap := s.heap.update S (Obj.mapSeq (fun _ => (#[] : Array Value))) } : Shared).TypeIs (.ref it) "list_reverseiterator" := Heap.IsRevIter.typeIs (s := { s with heap := s.heap.update S (Obj.mapSeq (fun _ => (#[] : Array Value))) }) hit1
  have h1 : Builtin.List.listSameRef (.ref S) (.ref it) = false := by simp [Builtin.List.listSameRef, nSi]
  unfold Builtin.List.listExtendWith
  refine wpAny_bind (wpAny_typeOf hT ?_)
  rw [if_neg (by rw [h1]; decide)]
  refine wpAny_bind (wpAny_pyIter_revIter (s := { s with heap := s.heap.update S (Obj.mapSeq (fun _ => (#[] : Array Value))) }) hit1 ?_)
  refine wpAny_bind (wpAny_holding ?_)
  unfold Builtin.List.listLengthHint
  refine wpAny_bind (wpAny_specialOf hT nolen_lri ?_)
  show wpAny _ A.in1 (specialOf (Value.ref it) (Str.ofString "__length_hint__") >>= _) _ _ _
  refine wpAny_bind (wpAny_specialOf hT hint_lri ?_)
  generalize hid : ("list_reverseiterator.__length_hint__" : String) = id0
  wp_delta
  rw [show splitId id0 = some ("list_reverseiterator", "__length_hint__") from by subst hid; decide +kernel]
  subst hid
  refine wpAny_bind (wpAny_isInstance (b := true) hT (by rw [isSubtype_type]; kernel_rfl) ?_)
  refine wpAny_pure ?_
  rw [if_neg (by decide)]
  have e0 : ((us.size : Nat) : Int) - 1 - ((0 : Nat) : Int) = (us.size : Int) - 1 := by omega
  refine wpAny_pure ⟨plainId_quiet F.plain_extend_loop _, codeAny_extend_loopS W hn _ hSf _ us.size 0 _ _ _ rfl (Nat.zero_le _) ⟨Nat.zero_le _, by rw [e0]; exact hit1, hl1⟩ hS1 (ItemsOf.nil _) fun s' acc' c' hm hS' hacc => ?_⟩
  rw [Moved.eq_with hm]
  refine hR s'.heap s'.toks acc' c' (fun b o hb hb2 e => hm.heap b o (fun hmem => ?_) (oth b o hb e)) hS' hacc
  rcases List.mem_cons.mp hmem with e' | hmem
  · exact hb e'
  · exact hb2 (List.mem_singleton.mp hmem)
/-- list(reversed's walk) -/
theorem call_list_rev {it l : Addr} {us : Array Value} {Q : Value → Shared → Prop} (hh : A.handled = none) (hit : s.heap.IsRevIter it l ((us.size : Int) - 1)) (hl : s.heap.IsList l us) (hne : l ≠ it) (hn : us.size ≤ sizeLine)
    (hQ : ∀ (h' : Heap) (tk : Nat) (acc : Array Value) (n : Nat), (∀ b o, b ≠ it → s.heap.get? b = some o → h'.get? b = some o) → h'.get? s.heap.objs.size = some { cls := .type "list", dict := none, data := .seq acc n, slots := #[] } → ItemsOf (RevAt us) acc us.size → Q (.ref s.heap.objs.size) { s with heap := h', toks := tk }) :
    wpAny (model prog w) A (call (.type "list") [.ref it]) Q E s := by
  obtain ⟨oi, hoi, _⟩ := id hit
  obtain ⟨ol, hol, _⟩ := id hl
  refine callType_codes (Q₁ := fun obj s₁ => obj = .ref s.heap.objs.size ∧ s₁ = { s with heap := s.heap.push { cls := .type "list", data := .seq #[] } }) PySem.F.called_list (PySem.F.typeCall_list_1 _) PySem.F.entry_list_init (code_list_new _ ⟨rfl, rfl⟩) fun obj s₁ h₁ => ?_
  obtain ⟨rfl, rfl⟩ := h₁
  have hS : (s.heap.push { cls := .type "list", data := .seq #[] }).get? s.heap.objs.size = some { cls := .type "list", data := .seq #[] } := Heap.get?_push_size _ rfl
  refine ⟨⟨_, hS, rfl⟩, PySem.F.args_list_init_2 _ _, rev_init (A := A.in1) (s := { s with heap := s.heap.push { cls := .type "list", data := .seq #[] } }) hh (hit.at fun o e => Heap.get?_push_of_some _ e) (hl.push _) hne hn (Nat.ne_of_gt (Heap.lt_size hoi)) (Nat.ne_of_gt (Heap.lt_size hol)) hS fun h' tk acc n hk hS' hacc => ?_⟩
  exact ⟨rfl, hQ h' tk acc n (fun b o hb e => hk b o (Nat.ne_of_lt (Heap.lt_size e)) hb (Heap.get?_push_of_some _ e)) hS' hacc⟩
end
section
variable {X : Cx} {c : Cfg} {Wx : WX} {a : Expr} {ea : Env → St → R W}
/-- list(reversed(a list)) -/
def tRvl (K : PySem.W.Frag) (ta : TE) : TE := fun σ H Q => ta σ H fun v H1 => ∃ (l : Addr) (xs : List V), v = .ref l ∧ SqL K H1 l xs ∧ ∀ q, H1 q = none → Q (.ref q) (upd H1 q (.lst xs.reverse))
theorem pe_rvl {ta : TE} {p p2 pos pos2 : Pos} (hc : X.calm = true) (h1 : Gl X "list") (m1 : X.mg "list" = none) (h2 : Gl X "reversed") (m2 : X.mg "reversed" = none) (ha : PE X a ta) (hs : notStar a = true) :
    PE X (.Call (.Name "list" p) [.Call (.Name "reversed" p2) [a] [] pos2] [] pos) (tRvl X.K ta) := by
  have s1 := star_cons (env := X.env) (es := []) hs
  have s2 := star_cons (env := X.env) (es := []) (e := .Call (.Name "reversed" p2) [a] [] pos2) rfl
  have b1 : bootBuiltins "list" = some (.type "list") := by decide +kernel
  refine ⟨fun pins s σ H Q I h => ?_⟩
  refine Call_ (ld_blt I h1 m1 b1 (callWith_type1 (args_cons (Call_ (ld_blt I h2 m2 boot_reversed (callWith_type1 (args_cons (thn (ha.run pins s σ H _ I h) fun u t ⟨v, H1, J, r1, q1⟩ => args_nil ?_) s1) s1 rfl))) s2) s2 rfl))
  obtain ⟨l, xs, ev, hq, q⟩ := q1
  subst ev
  obtain rfl : u = Value.ref l := r1
  obtain ⟨us, rv, pl, hz⟩ := J.list hq
  refine call_reversed_list pl.isList (args_nil ?_)
  have hl := pl.isList
  obtain ⟨ol, hol, _⟩ := id hl
  have ne : l ≠ t.heap.objs.size := Nat.ne_of_lt (Heap.lt_size hol)
  have hn : us.toArray.size ≤ sizeLine := by rw [List.size_toArray, ← rv.length]; exact hz
  refine call_list_rev (s := { t with heap := t.heap.push (revObj l ((us.toArray.size : Int) - 1)) }) (J.ok.hd hc) ⟨_, Heap.get?_push_size _ rfl, rfl, rfl⟩ (hl.push _) ne hn fun h' tk acc n hk hS hi => ?_
  have kk : ∀ b o, t.heap.get? b = some o → h'.get? b = some o := fun b o e => hk b o (Nat.ne_of_lt (Heap.lt_size e)) (Heap.get?_push_of_some _ e)
  have hz2 : t.heap.objs.size ≤ (t.heap.push (revObj l ((us.toArray.size : Int) - 1))).objs.size := by rw [Heap.size_push]; exact Nat.le_succ _
  refine ⟨.ref _, upd H1 _ (.lst xs.reverse), J.laid (t' := tk) kk hz2 (show ObjOk X.prog X.w _ _ _ (.lst xs.reverse) from ⟨by rw [List.length_reverse]; exact hz, acc.toList, n, vals_rev rv hi, ?_⟩), rfl, q _ (J.hok.fresh hz2)⟩
  rw [Array.toArray_toList]
  exact hS
theorem RelL.reverse {ρ : Rho} {H : Hp} : ∀ {ws : List W} {vs : List V}, RelL c ρ H ws vs → RelL c ρ H ws.reverse vs.reverse
  | [], _, h => by simp only [RelL] at h; subst h; exact RelL.nil
  | w :: ws, _, h => by
    simp only [RelL] at h
    obtain ⟨y, ys, rfl, r, rs⟩ := h
    rw [List.reverse_cons, List.reverse_cons]
    exact (RelL.reverse rs).append (RelL.cons r RelL.nil)
theorem E_rvl {fz : Bool} {p p2 pos pos2 : Pos} (hK : X.K = c.K) (hc : X.calm = true) (h1 : Gl X "list") (m1 : X.mg "list" = none) (h2 : Gl X "reversed") (m2 : X.mg "reversed" = none) (hs : notStar a = true) (ha : PE X a (tE c Wx ea)) :
    PE X (.Call (.Name "list" p) [.Call (.Name "reversed" p2) [a] [] pos2] [] pos) (tE c Wx fun e s => (ea e s).bind fun x s => (match lstOf s x with
      | some l => newL fz l.reverse s
      | none => .bad)) :=
  PE.weak (pe_rvl hc h1 m1 h2 m2 ha hs) fun σ H Q h => by
    obtain ⟨ρ, st, env, r, re, h⟩ := h
    refine ⟨ρ, st, env, r, re, h.bind.imp fun w st1 ρ1 H1 _ x1 r1 h v rv => ?_⟩
    split at h
    · rename_i l e
      obtain ⟨q, xs, rfl, rs, hq⟩ := lstOf_ok0 r1 rv e
      exact ⟨q, xs, rfl, by rw [hK]; exact hq, newL_at' h r1 rs.reverse⟩
    · exact h.elim
end
end Px

set_option linter.all false
set_option maxRecDepth 100000
/-! Px8: every expression that the checker takes. -/
namespace Px
open PySem PySem.Spec PyProof.Rows L2

/-- the module's names, as the runner takes them -/
structure Glob (c : Cfg) (P : Program) (w : World) (K : PySem.W.Frag) (mg : Str → Option Value) (base : Heap) (cl : Nat → List W → St → R W) (mkc : Nat → Nat → List W → St → R W) (k : Nat) : Prop where
  fn : ∀ f x m ds, c.nm.fn[f]? = some (some x) → dflB c.nm f m ds = true → ∃ (fa : Addr) (fd : FuncData) (ps : List Str) (dvs : List V) (us : List Value),
    FnOk P w K mg base (L2.CX P w) k fa fd ps (spF c (cl f)) ∧ mg x = some (.ref fa) ∧ PySem.W.keepIn K (.ref fa) = true ∧ Binds K fd ps us ∧ Vals dvs us ∧ ∀ ρ H, RelL c ρ H ds dvs
  con : ∀ x w, c.nm.con.lookup x = some w → ∃ v u, mg x = some u ∧ RelV v u ∧ ∀ ρ H, RelW c ρ H w v
  free : ∀ x ∈ c.nm.free, mg x = none
  cls : ∀ n x, c.nm.cls[n]? = some x → mg x = some (.ref (c.A n))
  gx : GlobX c K
  xs0 : ∀ n ∈ c.nm.ex0, Exc0 K (c.A n)
  xs1 : ∀ n g, c.nm.exf.lookup n = some g → ∃ f, c.nm.fld[g]? = some f ∧ Exc1 P w K mg base (c.A n) f
  k2 : 2 ≤ k
  made : ∀ n g, c.nm.own.lookup n = some g → ∃ (fa : Addr) (fd : FuncData) (ps : List Str) (ci : Nat → List W → St → R W), mkc n g = mkI ci n g ∧ Mk K (c.A n) fa ∧ FnOk P w K mg base (L2.CX P w) (k - 1) fa fd ps (spF c (ci g)) ∧ Binds K fd ps []
  mth : ∀ n m g j ds, c.nm.mth.lookup (n, m) = some g → dflB c.nm g j ds = true → ∃ (fa : Addr) (fd : FuncData) (ps : List Str) (dvs : List V) (us : List Value), Meth K (c.A n) m fa ∧ FnOk P w K mg base (L2.CX P w) k fa fd ps (spF c (cl g)) ∧ Binds K fd ps us ∧ Vals dvs us ∧ ∀ ρ H, RelL c ρ H ds dvs
  kd : ∀ x t, c.nm.kd.lookup x = some t → ∃ p, mg x = some (.ref p) ∧ KdOk c K w p t

theorem plain_parts {x : Str} (p : plainN x = true) : (x == ("__debug__" : Str)) = false ∧ x ≠ "__name__" := by
  simp only [plainN, Bool.and_eq_true, Bool.not_eq_true'] at p
  exact ⟨p.1.1.1, fun e => by rw [e] at p; exact absurd p.1.2 (by decide +kernel)⟩
theorem set_fold {e : Expr} {env : PySem.Env} (h : notSet e = true) : ∀ x, foldedSetIterable e env x = pure x := by
  intro x
  cases e <;> first | rfl | cases h
def plainT : Expr → Bool
  | .UnaryOp .Not _ _ => false
  | .BoolOp _ _ _ => false
  | .IfExp _ _ _ _ => false
  | .Compare _ _ _ _ => false
  | _ => true
theorem plain_isTrue {e : Expr} {env : PySem.Env} (h : plainT e = true) : ∀ whole, isTrue e env whole = (do let v ← whole; standAt e.pos; holding [v] (truthy v)) := by
  intro whole
  cases e with
  | UnaryOp op x p => cases op <;> first | rfl | cases h
  | BoolOp _ _ _ => cases h
  | IfExp _ _ _ _ => cases h
  | Compare _ _ _ _ => cases h
  | _ => rfl
theorem lenE_es {f : Expr → E → Bool} : ∀ {es : List Expr} {cs : Es}, esB f es cs = true → lenE cs = es.length
  | [], .nil, _ => rfl
  | e :: es, .cons c cs, h => by
    simp only [esB, Bool.and_eq_true] at h
    show lenE cs + 1 = es.length + 1
    rw [lenE_es h.2]
  | [], .cons _ _, h => by cases h
  | _ :: _, .nil, h => by cases h
theorem star_es {f : Expr → E → Bool} : ∀ {es : List Expr} {cs : Es}, esB f es cs = true → ∀ e ∈ es, notStar e = true
  | [], .nil, _, e, he => by cases he
  | a :: es, .cons c cs, h, e, he => by
    simp only [esB, Bool.and_eq_true] at h
    rcases List.mem_cons.mp he with q | q
    · subst q; exact h.1.1
    · exact star_es h.2 e q
  | [], .cons _ _, h, _, _ => by cases h
  | _ :: _, .nil, h, _, _ => by cases h

section
variable {c : Cfg} {N : List Str} {cl : Nat → List W → St → R W} {mkc : Nat → Nat → List W → St → R W} {mt : Nat → Nat → Option Nat} {k : Nat}
theorem len_evEs : ∀ (cs : Es), Len (lenE cs) (evEs cl mkc mt cs)
  | .nil, e, s, ws, s', h => by
    simp only [evEs] at h
    cases h; rfl
  | .cons a cs, e, s, ws, s', h => by
    simp only [evEs] at h
    cases e1 : evE cl mkc mt a e s with
    | bad => rw [e1] at h; cases h
    | exc _ _ _ => rw [e1] at h; cases h
    | ok w s1 =>
      rw [e1, R.bind_ok] at h
      cases e2 : evEs cl mkc mt cs e s1 with
      | bad => rw [e2] at h; cases h
      | exc _ _ _ => rw [e2] at h; cases h
      | ok ws2 s2 =>
        rw [e2, R.bind_ok] at h
        cases h
        show ws2.length + 1 = lenE cs + 1
        rw [len_evEs cs e s1 ws2 _ e2]
/-- what is to be shown of an expression -/
structure Snd (c : Cfg) (X : Cx) (Wx : WX) (e : Expr) (ev : Env → St → R W) : Prop where
  pe : PE X e (tE c Wx ev)
  pt : PT X e (tT c Wx ev)
  pw : ∀ o vs p, e = .BoolOp o vs p → PW X e (tT c Wx ev)
theorem Snd.plain {X : Cx} {Wx : WX} {e : Expr} {ev : Env → St → R W} (hK : X.K = c.K) (h : PE X e (tE c Wx ev)) (hp : plainT e = true) : Snd c X Wx e ev :=
  ⟨h, T_of hK h (plain_isTrue hp), fun o vs p q => by subst q; cases hp⟩
theorem A_es {X : Cx} {Wx : WX} {f : Expr → E → Bool} (ih : ∀ e ce, f e ce = true → Snd c X Wx e (evE cl mkc mt ce)) : ∀ {es : List Expr} {cs : Es}, esB f es cs = true → PA X es (tEs c Wx (evEs cl mkc mt cs))
  | [], .nil, _ => by
    have := A_nil (X := X) (c := c) (Wx := Wx)
    have e : evEs cl mkc mt .nil = fun _ s => .ok [] s := by funext e s; simp only [evEs]
    rw [e]; exact this
  | a :: es, .cons d cs, h => by
    simp only [esB, Bool.and_eq_true] at h
    have := A_cons h.1.1 (ih a d h.1.2).pe (A_es ih h.2)
    have e : evEs cl mkc mt (.cons d cs) = fun e s => (evE cl mkc mt d e s).bind fun w s => (evEs cl mkc mt cs e s).bind fun ws s => .ok (w :: ws) s := by funext e s; simp only [evEs]
    rw [e]; exact this
  | [], .cons _ _, h => by cases h
  | _ :: _, .nil, h => by cases h

theorem optB_O {X : Cx} {Wx : WX} {f : Expr → E → Bool} (ih : ∀ e ce, f e ce = true → Snd c X Wx e (evE cl mkc mt ce)) {o : Option Expr} {cs : Es} (h : optB f o cs = true) : PO X o (tO c Wx (evEs cl mkc mt cs)) := by
  unfold optB at h
  split at h
  · have e : evEs cl mkc mt .nil = fun _ s => .ok [] s := by funext e s; simp only [evEs]
    rw [e]; exact O_none
  · rename_i a d
    have e : evEs cl mkc mt (.cons d .nil) = fun e s => (evE cl mkc mt d e s).bind fun w s => (R.ok [] s).bind fun ws s => .ok (w :: ws) s := by funext e s; simp only [evEs]
    rw [e]; exact O_some (ih _ _ h).pe
  · cases h
theorem itB_I {X : Cx} {Wx : WX} {sc : Scope} {tg : Expr} {f : Expr → E → Bool} (G : Good c N X sc k) (gb : Glob c X.prog X.w X.K X.mg X.base cl mkc k) (ih : ∀ e ce, f e ce = true → Snd c X Wx e (evE cl mkc mt ce)) {e : Expr} {it : It} (h : itB f c.nm sc e it = true) : PI X tg e (tI c Wx (evIt cl mkc mt it)) ∧ ∀ x, foldedSetIterable e X.env x = pure x := by
  unfold itB at h
  split at h
  · rename_i x p es pos cs
    simp only [Bool.and_eq_true, decide_eq_true_eq, freeB] at h
    obtain ⟨⟨⟨⟨⟨h1, h2⟩, h3⟩, h4⟩, h5⟩, h6⟩ := h
    subst h2
    refine ⟨?_, fun _ => rfl⟩
    have hl := lenE_es h4
    have e : evIt cl mkc mt (.range cs) = fun e s => (evEs cl mkc mt cs e s).bind fun ws s => (match walkRange ws with
      | some wk => .ok wk s
      | none => .bad) := by funext e s; simp only [evIt] <;> rfl
    rw [e]
    exact I_range (n := 0) (by rw [← hl]; exact len_evEs cs) (by rw [← hl]; exact ⟨h5, h6⟩) (G.gl _ h1) (gb.free _ h3) (star_es h4) (A_es ih h4)
  · rename_i d
    simp only [Bool.and_eq_true] at h
    have e : evIt cl mkc mt (.val d) = fun e s => (evE cl mkc mt d e s).bind fun w s => (match walkVal s w with
      | some wk => .ok wk s
      | none => .bad) := by funext e s; simp only [evIt] <;> rfl
    rw [e]
    haveI := G.pw
    exact ⟨I_val G.hK (ih _ _ h.2).pe, set_fold h.1⟩
  · cases h

theorem blk_ok {X : Cx} {sc scope : Scope} {own : List (Str × Nat)} (G : Good c N X sc k) (h : blkC N sc scope own = true) : BlkOk X.N X.env.scope scope own := by
  have b := blkOk_by h
  refine ⟨b.kind, b.uniq, by rw [G.hN]; exact b.ix, fun y hy e => G.cap y.1 (b.free y hy e), by rw [G.hN]; exact b.own⟩
theorem rel_free {env : PySem.Env} {x : Str} : ∀ {names : List (Str × NameKind)}, names.lookup x = some .free → (names.map fun (n, k) => if (k == NameKind.free && env.scope.kind == .function && env.kindOf n == some .cell) then (n, NameKind.cell) else (n, k)).lookup x = some .cell ∨ (names.map fun (n, k) => if (k == NameKind.free && env.scope.kind == .function && env.kindOf n == some .cell) then (n, NameKind.cell) else (n, k)).lookup x = some .free
  | [], h => by cases h
  | (n, j) :: r, h => by
    rw [List.map_cons]
    cases hx : x == n with
    | true =>
      rw [List.lookup_cons, hx] at h
      cases h
      dsimp only
      split
      · left; rw [List.lookup_cons, hx]
      · right; rw [List.lookup_cons, hx]
    | false =>
      rw [List.lookup_cons, hx] at h
      have ih := rel_free (env := env) (names := r) h
      dsimp only
      split
      · rw [List.lookup_cons, hx]; exact ih
      · rw [List.lookup_cons, hx]; exact ih
theorem rel_keep {env : PySem.Env} {x : Str} {j : NameKind} (hj : j ≠ .free) : ∀ {names : List (Str × NameKind)}, names.lookup x = some j → (names.map fun (n, k) => if (k == NameKind.free && env.scope.kind == .function && env.kindOf n == some .cell) then (n, NameKind.cell) else (n, k)).lookup x = some j
  | [], h => by cases h
  | (n, i) :: r, h => by
    rw [List.map_cons]
    cases hx : x == n with
    | true =>
      rw [List.lookup_cons, hx] at h
      cases h
      dsimp only
      rw [if_neg (by cases j <;> first | exact absurd rfl hj | simp), List.lookup_cons, hx]
    | false =>
      rw [List.lookup_cons, hx] at h
      have ih := rel_keep (env := env) hj (names := r) h
      dsimp only
      split
      · rw [List.lookup_cons, hx]; exact ih
      · rw [List.lookup_cons, hx]; exact ih
/-- a comprehension's block -/
theorem Good.blk {X : Cx} {sc scope : Scope} {own : List (Str × Nat)} (G : Good c N X sc k) (h : blkC N sc scope own = true) (s : Shared) (H : Hp) (C : Addr) (cl : List (Str × Addr)) (fp : List Addr) : Good c N (X.blk s H scope (compEnvC scope cl C X.env) fp) scope k := by
  have one : ∀ {x : Str} {j : NameKind}, kindIs scope x j = true → scope.names.lookup x = some j := fun h => of_decide_eq_true h
  have es : (compEnvC scope cl C X.env).scope.names = scope.names.map fun (n, k) => if (k == NameKind.free && X.env.scope.kind == .function && X.env.kindOf n == some .cell) then (n, NameKind.cell) else (n, k) := rfl
  refine ⟨G.hK, G.hN, G.nd, G.calm, G.room, fun x hx => ?_, fun x hx => ?_, fun x hx => ?_, fun x hx => ?_, ⟨G.pw.p, G.pw.w⟩⟩
  · unfold visB at hx
    simp only [Bool.or_eq_true] at hx
    show Vis (compEnvC scope cl C X.env).scope x
    unfold Vis
    rw [es]
    rcases hx with (hx | hx) | hx
    · exact .inl (rel_keep (by decide) (one hx))
    · exact .inr (.inl (rel_keep (by decide) (one hx)))
    · exact .inr (rel_free (one hx))
  · unfold locB at hx
    simp only [Bool.or_eq_true] at hx
    show L2.Loc (compEnvC scope cl C X.env).scope x ∧ ((scope.names.lookup x == some .cell) = true ∨ (compEnvC scope cl C X.env).scope.names.lookup x = some .local)
    unfold L2.Loc
    rw [es]
    rcases hx with hx | hx
    · exact ⟨.inl (rel_keep (by decide) (one hx)), .inr (rel_keep (by decide) (one hx))⟩
    · exact ⟨.inr (rel_keep (by decide) (one hx)), .inl (by rw [one hx]; rfl)⟩
  · show (compEnvC scope cl C X.env).scope.names.lookup x = some .globalImplicit
    rw [es]
    exact rel_keep (by decide) (one hx)
  · show (compEnvC scope cl C X.env).scope.names.lookup x = some .cell ∨ (compEnvC scope cl C X.env).scope.names.lookup x = some .free
    rw [es]
    rcases hx with hx | hx
    · exact .inl (rel_keep (by decide) hx)
    · exact rel_free hx
theorem takes_blk {X : Cx} {s : Shared} {H : Hp} {scope : Scope} {env : PySem.Env} {fp : List Addr} : Takes (X.blk s H scope env fp) (fun _ _ _ _ => False) := by
  intro u s' x
  obtain ⟨a, B, sI, pins, σ, H, cls, d, e, I, nb, up, sky, na, os, ag, w⟩ := x
  exact w.elim
theorem own_idx {N : List Str} (t : Tg) : (ownOf N t).map (·.2) = idx t := by
  cases t with
  | one i => rfl
  | many is => simp [ownOf, idx, Function.comp_def]
theorem lc_ok {n : Nat} {X : Cx} {sc scope : Scope} {Wx : WX} {elt tg iter : Expr} {ifs : List Expr} {t : Tg} {it : It} {d el : E} (G : Good c N X sc k) (tk : Takes X Wx) (gb : Glob c X.prog X.w X.K X.mg X.base cl mkc k)
    (ih : ∀ {X : Cx} {sc : Scope} {Wx : WX} {e : Expr} {ce : E}, Good c N X sc k → Takes X Wx → Glob c X.prog X.w X.K X.mg X.base cl mkc k → chkE c.nm N n sc e ce = true → Snd c X Wx e (evE cl mkc mt ce))
    (h : (itB (chkE c.nm N n sc) c.nm sc iter it && blkC N sc scope (ownOf N t) && targB scope N tg t && ifsB (chkE c.nm N n scope) ifs d && chkE c.nm N n scope elt el) = true) :
    LcOk c X Wx t (evIt cl mkc mt it) (evE cl mkc mt d) (evE cl mkc mt el) elt tg iter ifs scope (ownOf N t) := by
  simp only [Bool.and_eq_true] at h
  obtain ⟨⟨⟨⟨h1, h2⟩, h3⟩, h4⟩, h5⟩ := h
  obtain ⟨hi, hs⟩ := itB_I (tg := tg) (Wx := Wx) G gb (fun e ce h => ih G tk gb h) h1
  refine ⟨own_idx t, hi, blk_ok G h2, fun s H C cl fp => G_targ (G.blk h2 s H C cl fp) h3, fun s H C cl' fp => ?_, fun s H C cl' fp => (ih (G.blk h2 s H C cl' fp) takes_blk gb h5).pe, hs⟩
  unfold ifsB at h4
  split at h4
  · exact ⟨fun pins s σ H Q I q => pts_nil.run pins s σ H Q I (by
      obtain ⟨ρ, st, env, r, re, q⟩ := q
      have q : Post c _ ρ H (.ok (W.bl true) st) _ := q
      obtain ⟨b, e, q⟩ := Post.here q r
      cases e
      exact q)⟩
  · exact pts_one (ih (G.blk h2 s H C cl' fp) takes_blk gb h4).pt
  · cases h4
/-- THE EXPRESSIONS -/
theorem sndE : ∀ (n : Nat) {X : Cx} {sc : Scope} {Wx : WX} {e : Expr} {ce : E}, Good c N X sc k → Takes X Wx → Glob c X.prog X.w X.K X.mg X.base cl mkc k → chkE c.nm N n sc e ce = true → Snd c X Wx e (evE cl mkc mt ce) := by
  intro n
  induction n with
  | zero => intro X sc Wx e ce G tk gb h; simp only [chkE] at h; cases h
  | succ n ih =>
    intro X sc Wx e ce G tk gb h
    have hu : X.A.units + 64 < cLine := G.room.units
    haveI := G.pw
    have ih' := fun e ce (h : chkE c.nm N n sc e ce = true) => ih (Wx := Wx) G tk gb h
    have h : chkE1 c.nm N (chkE c.nm N n) sc e ce = true := h
    unfold chkE1 at h
    split at h
    case h_1 =>
      simp only [Bool.and_eq_true] at h
      exact Snd.plain G.hK (E_name (by rw [G.hN]; exact nameAt_of h.1.2) (G.vis _ h.1.1) h.2) rfl
    case h_2 =>
      simp only [Bool.and_eq_true] at h
      obtain ⟨⟨h1, h2⟩, h3⟩ := h
      unfold conIs at h3
      split at h3
      · rename_i w' e
        obtain ⟨v, u, g1, g2, g3⟩ := gb.con _ _ e
        rw [same_eq h3] at g3
        exact Snd.plain G.hK (E_const (pe_glob (G.gl _ h1) g1 g2 (plain_parts h2).1) g3) rfl
      · cases h3
    case h_3 => exact Snd.plain G.hK (E_k h) rfl
    case h_4 =>
      simp only [Bool.and_eq_true, decide_eq_true_eq] at h
      exact Snd.plain G.hK (E_tup (len_evEs _) h.2 (A_es ih' h.1)) rfl
    case h_5 =>
      simp only [Bool.and_eq_true, decide_eq_true_eq] at h
      exact Snd.plain G.hK (E_lst (len_evEs _) h.2 (A_es ih' h.1)) rfl
    case h_6 =>
      simp only [Bool.and_eq_true] at h
      exact Snd.plain G.hK (E_op G.hK h.1.1 (ih' _ _ h.1.2).pe (ih' _ _ h.2).pe) rfl
    case h_7 =>
      simp only [Bool.and_eq_true, Bool.not_eq_true'] at h
      obtain ⟨⟨⟨h1, h2⟩, h3⟩, h4⟩ := h
      exact ⟨E_cmp hu G.hK h1 (ih' _ _ h2).pe (ih' _ _ h3).pe h4, T_cmp hu G.hK h1 (ih' _ _ h2).pe (ih' _ _ h3).pe h4, fun o vs p q => by cases q⟩
    case h_8 =>
      simp only [Bool.and_eq_true, Bool.not_eq_true'] at h
      obtain ⟨⟨⟨⟨⟨h1, h2⟩, h3⟩, h4⟩, h5⟩, h6⟩ := h
      exact ⟨E_chain hu G.hK h1 h2 (ih' _ _ h3).pe (ih' _ _ h4).pe (ih' _ _ h5).pe h6, T_chain hu G.hK h1 h2 (ih' _ _ h3).pe (ih' _ _ h4).pe (ih' _ _ h5).pe h6, fun o vs p q => by cases q⟩
    case h_9 => exact Snd.plain G.hK (E_neg (ih' _ _ h).pe) rfl
    case h_10 => exact ⟨E_not G.hK (ih' _ _ h).pe, T_not (ih' _ _ h).pt, fun o vs p q => by cases q⟩
    case h_11 o a pos _ =>
      have z := ih' _ _ h
      have w : PW X (.BoolOp o [a] pos) (tT c Wx (evE cl mkc mt ce)) := by
        cases o with
        | And => exact pw_and1 z.pt
        | Or => exact pw_or1 z.pt
      exact ⟨pe_one z.pe, w.pt, fun _ _ _ q => by cases q; exact w⟩
    case h_12 =>
      simp only [Bool.and_eq_true] at h
      have z := ih' _ _ h.2
      have w := T_and (ih' _ _ h.1).pt (z.pw _ _ _ rfl)
      exact ⟨E_and G.hK (ih' _ _ h.1).pe z.pe, PW.pt w, fun _ _ _ q => by cases q; exact w⟩
    case h_13 =>
      simp only [Bool.and_eq_true] at h
      have z := ih' _ _ h.2
      have w := T_or (ih' _ _ h.1).pt (z.pw _ _ _ rfl)
      exact ⟨E_or G.hK (ih' _ _ h.1).pe z.pe, PW.pt w, fun _ _ _ q => by cases q; exact w⟩
    case h_14 =>
      simp only [Bool.and_eq_true] at h
      obtain ⟨⟨h1, h2⟩, h3⟩ := h
      exact ⟨E_ite (ih' _ _ h1).pt (ih' _ _ h2).pe (ih' _ _ h3).pe, T_ite (ih' _ _ h1).pt (ih' _ _ h2).pt (ih' _ _ h3).pt, fun o vs p q => by cases q⟩
    case h_15 =>
      simp only [Bool.and_eq_true] at h
      obtain ⟨⟨h1, h2⟩, h3⟩ := h
      exact Snd.plain G.hK (E_sl G.hK (ih' _ _ h1).pe (optB_O ih' h2) (optB_O ih' h3)) rfl
    case h_16 =>
      simp only [Bool.and_eq_true] at h
      obtain ⟨⟨h1, h2⟩, h3⟩ := h
      exact Snd.plain G.hK (E_ix hu G.hK h1 (ih' _ _ h2).pe (ih' _ _ h3).pe) rfl
    case h_17 nf p es pos g cs ds _ =>
      simp only [Bool.and_eq_true] at h
      obtain ⟨⟨⟨⟨h1, h2⟩, h3⟩, h4⟩, h5⟩ := h
      obtain ⟨fa, fd, ps, dvs, us, F, hm, hk, hb, hv, hds⟩ := gb.fn g nf _ ds (of_decide_eq_true h3) h5
      cases es with
      | nil =>
        cases cs with
        | nil => exact Snd.plain G.hK (E_call0 F G.room (G.gl _ h1) hm hk hb hv hds tk (plain_parts h2).1) rfl
        | cons _ _ => cases h4
      | cons a es =>
        have h4' := h4
        cases cs with
        | nil => cases h4
        | cons d cs =>
          simp only [esB, Bool.and_eq_true] at h4
          exact Snd.plain G.hK (E_call F G.room (G.gl _ h1) hm hk hb hv hds tk (plain_parts h2).1 h4.1.1 (star_plain h4.2) (A_es ih' h4')) rfl
    case h_18 nf p a t p' pos x ty _ =>
      simp only [Bool.and_eq_true, decide_eq_true_eq] at h
      obtain ⟨⟨⟨⟨⟨h1, h2⟩, h3⟩, h4⟩, h5⟩, h6⟩ := h
      subst h2
      rcases Bool.or_eq_true_iff.mp h6 with h6 | h6
      · unfold tyB at h6
        simp only [Bool.and_eq_true] at h6
        obtain ⟨⟨h7, h8⟩, h9⟩ := h6
        split at h9
        · cases h9
        · cases h9
        · simp only [Bool.and_eq_true, decide_eq_true_eq] at h9
          exact Snd.plain G.hK (E_isi G.hK (G.gl _ h1) (gb.free _ (of_decide_eq_true h3)) h9.1 (G.gl _ h7) (gb.free _ (of_decide_eq_true h9.2)) h4 (ih' _ _ h5).pe) rfl
      · cases ty with
        | cls n yes no =>
          unfold tyXB at h6
          simp only [Bool.and_eq_true, decide_eq_true_eq, List.all_eq_true] at h6
          obtain ⟨⟨⟨⟨h7, h8⟩, h9⟩, h10⟩, h11⟩ := h6
          refine Snd.plain G.hK (E_isx (cv := .ref (c.A n)) (v := .ref (c.A n)) G.hK (G.gl _ h1) (gb.free _ (of_decide_eq_true h3)) rfl h4 (ih' _ _ h5).pe (pe_glob (G.gl _ h7) (gb.cls n _ h9) rfl (plain_parts h8).1) (fun u z => z) fun k b st l e => ?_) rfl
          have e : (if k ∈ yes then some true else if k ∈ no then some false else none) = some b := e
          split at e
          · rename_i hm
            cases e
            exact gb.gx.ist k n true (h10 k hm)
          · split at e
            · rename_i hm
              cases e
              exact gb.gx.ist k n false (h11 k hm)
            · cases e
        | valueError yes =>
          unfold tyXB at h6
          simp only [Bool.and_eq_true, decide_eq_true_eq, List.all_eq_true] at h6
          obtain ⟨⟨⟨h7, h8⟩, h9⟩, h10⟩ := h6
          subst h8
          refine Snd.plain G.hK (E_isx (cv := .type "ValueError") (v := .ty "ValueError") G.hK (G.gl _ h1) (gb.free _ (of_decide_eq_true h3)) rfl h4 (ih' _ _ h5).pe (pe_bltn (G.gl _ h7) (gb.free _ (of_decide_eq_true h9)) (by decide +kernel) rfl (by decide +kernel) (by decide +kernel)) (fun u z => z) fun k b st l e => ?_) rfl
          have e : (if k ∈ yes then some true else none) = some b := e
          split at e
          · rename_i hm
            cases e
            exact gb.gx.isv k (h10 k hm)
          · cases e
        | _ => cases h6
    case h_19 y q fn pos z g ks _ =>
      simp only [Bool.and_eq_true, decide_eq_true_eq, List.all_eq_true] at h
      obtain ⟨⟨h1, h2⟩, h3⟩ := h
      have e : evE cl mkc mt (.fld z g ks) = fun e s => (evE cl mkc mt z e s).bind fun x s => fldW s x g ks := by funext e s; simp only [evE]
      rw [e]
      exact Snd.plain G.hK (E_fldx G.hK gb.gx (ih' _ _ h1).pe h2 h3) rfl
    case h_20 nf p es pos fz b cs _ =>
      simp only [Bool.and_eq_true, decide_eq_true_eq] at h
      obtain ⟨⟨⟨⟨h1, h2⟩, h3⟩, h4⟩, h5⟩ := h
      subst h2
      have h4' := h4
      cases es with
      | nil =>
        cases cs with
        | nil => cases h5
        | cons _ _ => cases h4
      | cons a es =>
        cases cs with
        | nil => cases h4
        | cons d cs =>
          simp only [esB, Bool.and_eq_true] at h4
          exact Snd.plain G.hK (E_bi G.calm hu G.hK (G.gl _ h1) (gb.free _ (of_decide_eq_true h3)) h4.1.1 (star_plain h4.2) (A_es ih' h4')) rfl
    case h_21 elt tg iter ifs scope pos fz t it d el _ => exact Snd.plain G.hK (E_lc G (lc_ok G tk gb ih h)) rfl
    case h_22 o n ap es p fz a m cs _ =>
      simp only [Bool.and_eq_true, decide_eq_true_eq] at h
      obtain ⟨⟨⟨⟨⟨⟨h1, h2⟩, h3⟩, h4⟩, h5⟩, h6⟩, h7⟩ := h
      subst h1
      have hl := lenE_es h6
      refine Snd.plain G.hK (E_meth G.hK h2 h3 h4 (star_es h6) (by rw [← hl]; exact h7) (ih' _ _ h5).pe (A_es ih' h6) fun e => ?_) rfl
      subst e
      cases cs with
      | nil => funext e s; simp only [evEs]
      | cons _ _ => cases h6
    case h_23 nf p nr p2 a p3 p4 fz x _ =>
      simp only [Bool.and_eq_true, decide_eq_true_eq] at h
      obtain ⟨⟨⟨⟨⟨⟨⟨h1, h2⟩, h3⟩, h4⟩, h5⟩, h6⟩, h7⟩, h8⟩ := h
      subst h2 h5
      have e : evE cl mkc mt (.rvl fz x) = fun e s => (evE cl mkc mt x e s).bind fun y s => (match lstOf s y with
        | some l => newL fz l.reverse s
        | none => .bad) := by funext e s; simp only [evE] <;> rfl
      rw [e]
      exact Snd.plain G.hK (E_rvl G.hK G.calm (G.gl _ h1) (gb.free _ (of_decide_eq_true h3)) (G.gl _ h4) (gb.free _ (of_decide_eq_true h6)) h7 (ih' _ _ h8).pe) rfl
    case h_24 x p pos n _ =>
      simp only [Bool.and_eq_true, decide_eq_true_eq] at h
      obtain ⟨⟨⟨h1, h2⟩, h3⟩, h4⟩ := h
      have e : evE cl mkc mt (.mkx n .nil) = fun _ s => .ok (.exn n []) s := by funext e s; simp only [evE, evEs, R.bind_ok]
      rw [e]
      exact Snd.plain G.hK (E_mkx0 (gb.xs0 n h4) (gb.cls n _ h3) (G.gl _ h1) (plain_parts h2).1) rfl
    case h_25 x p a pos n d _ =>
      simp only [Bool.and_eq_true, decide_eq_true_eq] at h
      obtain ⟨⟨⟨⟨⟨h1, h2⟩, h3⟩, h4⟩, h5⟩, h6⟩ := h
      obtain ⟨g, eg⟩ := Option.isSome_iff_exists.mp h6
      obtain ⟨f, ef, E⟩ := gb.xs1 n g eg
      have e : evE cl mkc mt (.mkx n (.cons d .nil)) = fun e s => (evE cl mkc mt d e s).bind fun w s => .ok (.exn n [w]) s := by
        funext e s
        simp only [evE, evEs]
        cases evE cl mkc mt d e s <;> rfl
      rw [e]
      exact Snd.plain G.hK (E_mkx1 G.calm G.room gb.k2 eg ef E (gb.cls n _ h3) (G.gl _ h1) (plain_parts h2).1 h4 (ih' _ _ h5).pe) rfl
    case h_26 ks vs pos t ps _ =>
      simp only [Bool.and_eq_true, decide_eq_true_eq] at h
      have e : evE cl mkc mt (.dct t ps) = fun e s => (match evEs cl mkc mt ps e s with
        | .ok ws s2 => newD t ws s2
        | _ => .bad) := by funext e s; simp only [evE] <;> rfl
      rw [e]
      obtain ⟨trs, P, hP⟩ := P_pairs (pos := pos) (fun e ce h => (ih' e ce h).pe) h.1.1
      refine Snd.plain G.hK (E_dct h.1.1 h.1.2 (fun ht => ?_) P hP) rfl
      have z := h.2
      rw [ht] at z
      simpa using z
    case h_27 x p es pos n g cs _ =>
      simp only [Bool.and_eq_true, decide_eq_true_eq] at h
      obtain ⟨⟨⟨⟨h1, h2⟩, h3⟩, h4⟩, h5⟩ := h
      obtain ⟨fa, fd, ps, ci, em, M, F, hb⟩ := gb.made n g h4
      have e : evE cl mkc mt (.mk n g cs) = fun e s => (evEs cl mkc mt cs e s).bind fun ws s => mkI ci n g ws s := by funext e s; simp only [evE, em]
      rw [e]
      have k2 := gb.k2
      refine Snd.plain G.hK (E_mk M F (by rw [show k - 1 + 1 = k by omega]; exact G.room) (G.gl _ h1) (gb.cls n _ h3) hb (by rw [h4]; rfl) tk (plain_parts h2).1 (star_es h5) (A_es ih' h5) fun e => ?_) rfl
      subst e
      cases cs with
      | nil => funext e s; simp only [evEs]
      | cons _ _ => cases h5
    case h_28 o n ap es p a k' g cs ds _ =>
      simp only [Bool.and_eq_true, decide_eq_true_eq, Bool.not_eq_true', decide_eq_false_iff_not] at h
      obtain ⟨⟨⟨⟨⟨⟨⟨⟨h1, h2⟩, h3⟩, h4⟩, h5⟩, h6⟩, h7⟩, h8⟩, h9⟩ := h
      obtain ⟨fa, fd, ps, dvs, us, M, F, hb, hdv, hds⟩ := gb.mth k' n g _ ds h1 h9
      obtain ⟨gi, ei⟩ := Option.isSome_iff_exists.mp h2
      obtain ⟨C, _⟩ := gb.gx.own k' gi ei
      have e : evE cl mkc mt (.mine a k' g cs ds) = fun e s => (evE cl mkc mt a e s).bind fun x s => if insOf s x = some k' ∧ mt k' g = none then (evEs cl mkc mt cs e s).bind fun ws s => cl g (x :: (ws ++ ds)) s else .bad := by funext e s; simp only [evE] <;> rfl
      rw [e]
      have hl := lenE_es h7
      refine Snd.plain G.hK (E_mine C M F G.room hb hdv hds h3 tk h4 h5 (star_es h7) (by rw [← hl]; exact h8) (ih' _ _ h6).pe (A_es ih' h7) fun e => ?_) rfl
      subst e
      cases cs with
      | nil => funext e s; simp only [evEs]
      | cons _ _ => cases h7
    case h_29 nf p o n ap p2 pos fz a _ =>
      simp only [Bool.and_eq_true, decide_eq_true_eq] at h
      obtain ⟨⟨⟨⟨⟨⟨h1, h2⟩, h3⟩, h4⟩, h5⟩, h6⟩, h7⟩ := h
      subst h2 h4
      have e : evE cl mkc mt (.sit fz a) = fun e s => (evE cl mkc mt a e s).bind fun x s => sitW fz s x := by funext e s; simp only [evE]
      rw [e]
      exact Snd.plain G.hK (E_sit G.calm hu G.hK (G.gl _ h1) (gb.free _ (of_decide_eq_true h3)) h5 h6 (ih' _ _ h7).pe) rfl
    case h_30 a x p pos y t _ =>
      simp only [Bool.and_eq_true, Bool.not_eq_true'] at h
      obtain ⟨⟨⟨⟨h1, h2⟩, h3⟩, h4⟩, h5⟩ := h
      obtain ⟨q, hq, D⟩ := gb.kd _ _ (kdIs_ok c.nm h3)
      have e : evE cl mkc mt (.kin false y t) = fun e s => (evE cl mkc mt y e s).bind fun x s => kinW false t s x := by funext e s; simp only [evE]
      rw [e]
      have hx := pe_glob (X := X) (pos := p) (G.gl _ h1) hq (show RelV (V.ref q) (Value.ref q) from rfl) (plain_parts h2).1
      exact ⟨E_kin (.inl ⟨rfl, rfl⟩) D hx (ih' _ _ h4).pe h5, T_kin (.inl ⟨rfl, rfl⟩) D hx (ih' _ _ h4).pe h5, fun o vs p q => by cases q⟩
    case h_31 a x p pos y t _ =>
      simp only [Bool.and_eq_true, Bool.not_eq_true'] at h
      obtain ⟨⟨⟨⟨h1, h2⟩, h3⟩, h4⟩, h5⟩ := h
      obtain ⟨q, hq, D⟩ := gb.kd _ _ (kdIs_ok c.nm h3)
      have e : evE cl mkc mt (.kin true y t) = fun e s => (evE cl mkc mt y e s).bind fun x s => kinW true t s x := by funext e s; simp only [evE]
      rw [e]
      have hx := pe_glob (X := X) (pos := p) (G.gl _ h1) hq (show RelV (V.ref q) (Value.ref q) from rfl) (plain_parts h2).1
      exact ⟨E_kin (.inr ⟨rfl, rfl⟩) D hx (ih' _ _ h4).pe h5, T_kin (.inr ⟨rfl, rfl⟩) D hx (ih' _ _ h4).pe h5, fun o vs p q => by cases q⟩
    case h_32 x p i pos t y _ =>
      simp only [Bool.and_eq_true] at h
      obtain ⟨⟨⟨⟨h1, h2⟩, h3⟩, h4⟩, h5⟩ := h
      obtain ⟨q, hq, D⟩ := gb.kd _ _ (kdIs_ok c.nm h3)
      have e : evE cl mkc mt (.kix t y) = fun e s => (evE cl mkc mt y e s).bind fun x s => kixW t s x := by funext e s; simp only [evE]
      rw [e]
      have hx := pe_glob (X := X) (pos := p) (G.gl _ h1) hq (show RelV (V.ref q) (Value.ref q) from rfl) (plain_parts h2).1
      exact Snd.plain G.hK (E_kix D hx (ih' _ _ h5).pe h4) rfl
    case h_33 o n ap a b p x y z _ =>
      simp only [Bool.and_eq_true, decide_eq_true_eq] at h
      obtain ⟨⟨⟨⟨⟨⟨⟨h1, h2⟩, h3⟩, h4⟩, h5⟩, h6⟩, h7⟩, h8⟩ := h
      subst h1
      have e : evE cl mkc mt (.dget x y z) = fun e s => (evE cl mkc mt x e s).bind fun d s => if isDf s d = true then (evE cl mkc mt y e s).bind fun k s => (evE cl mkc mt z e s).bind fun x s => dgetW s d k x else .bad := by funext e s; simp only [evE] <;> rfl
      rw [e]
      exact Snd.plain G.hK (E_dget2 hu G.hK (ih' _ _ h6).pe (ih' _ _ h7).pe (ih' _ _ h8).pe (m2_of h2 h3 h4 h5)) rfl
    case h_34 o n ap a p x y _ =>
      simp only [Bool.and_eq_true, decide_eq_true_eq] at h
      obtain ⟨⟨⟨⟨⟨h1, h2⟩, h3⟩, h4⟩, h6⟩, h7⟩ := h
      subst h1
      have e : evE cl mkc mt (.dget x y (.k .non)) = fun e s => (evE cl mkc mt x e s).bind fun d s => if isDf s d = true then (evE cl mkc mt y e s).bind fun k s => dgetW s d k .non else .bad := by funext e s; simp only [evE, R.bind_ok] <;> rfl
      rw [e]
      exact Snd.plain G.hK (E_dget1 hu G.hK (ih' _ _ h6).pe (ih' _ _ h7).pe (m1_of h2 h3 h4)) rfl
    case h_35 o n ap a b p x y z _ =>
      simp only [Bool.and_eq_true, decide_eq_true_eq] at h
      obtain ⟨⟨⟨⟨⟨⟨⟨h1, h2⟩, h3⟩, h4⟩, h5⟩, h6⟩, h7⟩, h8⟩ := h
      subst h1
      have e : evE cl mkc mt (.sdf x y z) = fun e s => (evE cl mkc mt x e s).bind fun d s => if isDf s d = true then (evE cl mkc mt y e s).bind fun k s => (evE cl mkc mt z e s).bind fun x s => sdfW s d k x else .bad := by funext e s; simp only [evE] <;> rfl
      rw [e]
      exact Snd.plain G.hK (E_sdf hu G.hK (ih' _ _ h6).pe (ih' _ _ h7).pe (ih' _ _ h8).pe (m2_of h2 h3 h4 h5)) rfl
    case h_36 => cases h
end
end Px

set_option linter.all false
set_option maxRecDepth 100000
/-! Px9: statements. -/
namespace Px
open PySem PySem.Spec PyProof.Rows L2

def PostS (c : Cfg) (D : Ends) (Wx : WX) (ρ : Rho) (H : Hp) : RS → Prop
  | .nx e st => ∀ ρ' H' σ', Ext ρ H ρ' H' → Rel c ρ' H' st → REnv c ρ' H' e σ' → D.nx σ' H'
  | .ret w st => ∀ ρ' H' v, Ext ρ H ρ' H' → Rel c ρ' H' st → RelW c ρ' H' w v → D.rt v H'
  | .brk e st => ∀ ρ' H' σ', Ext ρ H ρ' H' → Rel c ρ' H' st → REnv c ρ' H' e σ' → D.bk σ' H'
  | .ct e st => ∀ ρ' H' σ', Ext ρ H ρ' H' → Rel c ρ' H' st → REnv c ρ' H' e σ' → D.ct σ' H'
  | .exc k l e st => ∀ ρ' H' σ' cls d, Ext ρ H ρ' H' → Rel c ρ' H' st → REnv c ρ' H' e σ' → RelX c ρ' H' k l cls d → Wx cls d σ' H'
  | .bad => False
def tS (c : Cfg) (Wx : WX) (ev : Env → St → RS) : TS := fun D σ H => ∃ ρ st env, Rel c ρ H st ∧ REnv c ρ H env σ ∧ PostS c D Wx ρ H (ev env st)
theorem PS.weak {X : Cx} {e : Stmt} {t t' : TS} (h : PS X e t) (k : ∀ D σ H, t' D σ H → t D σ H) : PS X e t' := ⟨fun pins s σ H D I q => h.run pins s σ H D I (k D σ H q)⟩
theorem PSs.weak {X : Cx} {e : List Stmt} {t t' : TS} (h : PSs X e t) (k : ∀ D σ H, t' D σ H → t D σ H) : PSs X e t' := ⟨fun pins s σ H D I q => h.run pins s σ H D I (k D σ H q)⟩
section
variable {c : Cfg} {D : Ends} {Wx : WX} {ρ : Rho} {H : Hp} {env : Env} {σ : L2.St}
theorem PostS.of {r : R W} {f : W → St → RS} (re : REnv c ρ H env σ) (h : PostS c D Wx ρ H (RS.of env r f)) : Post c (fun k d H' => Wx k d σ H') ρ H r fun w st' ρ' H' => PostS c D Wx ρ' H' (f w st') := by
  cases r with
  | bad => exact h
  | exc k l s => exact fun ρ' H' cls d x r z => h ρ' H' σ cls d x r (re.ext x) z
  | ok w s =>
    intro ρ1 H1 x r1
    have h : PostS c D Wx ρ H (f w s) := h
    cases e : f w s with
    | bad => rw [e] at h; exact h
    | nx e2 s2 => rw [e] at h; exact fun ρ2 H2 σ2 y r2 q => h ρ2 H2 σ2 (x.trans y) r2 q
    | brk e2 s2 => rw [e] at h; exact fun ρ2 H2 σ2 y r2 q => h ρ2 H2 σ2 (x.trans y) r2 q
    | ct e2 s2 => rw [e] at h; exact fun ρ2 H2 σ2 y r2 q => h ρ2 H2 σ2 (x.trans y) r2 q
    | ret w2 s2 => rw [e] at h; exact fun ρ2 H2 v y r2 q => h ρ2 H2 v (x.trans y) r2 q
    | exc k l e2 s2 => rw [e] at h; exact fun ρ2 H2 σ2 cls d y r2 q z => h ρ2 H2 σ2 cls d (x.trans y) r2 q z
theorem PostS.ofL {r : R (List W)} {f : List W → St → RS} (re : REnv c ρ H env σ) (h : PostS c D Wx ρ H (RS.ofL env r f)) : Post c (fun k d H' => Wx k d σ H') ρ H r fun w st' ρ' H' => PostS c D Wx ρ' H' (f w st') := by
  cases r with
  | bad => exact h
  | exc k l s => exact fun ρ' H' cls d x r z => h ρ' H' σ cls d x r (re.ext x) z
  | ok w s =>
    intro ρ1 H1 x r1
    have h : PostS c D Wx ρ H (f w s) := h
    cases e : f w s with
    | bad => rw [e] at h; exact h
    | nx e2 s2 => rw [e] at h; exact fun ρ2 H2 σ2 y r2 q => h ρ2 H2 σ2 (x.trans y) r2 q
    | brk e2 s2 => rw [e] at h; exact fun ρ2 H2 σ2 y r2 q => h ρ2 H2 σ2 (x.trans y) r2 q
    | ct e2 s2 => rw [e] at h; exact fun ρ2 H2 σ2 y r2 q => h ρ2 H2 σ2 (x.trans y) r2 q
    | ret w2 s2 => rw [e] at h; exact fun ρ2 H2 v y r2 q => h ρ2 H2 v (x.trans y) r2 q
    | exc k l e2 s2 => rw [e] at h; exact fun ρ2 H2 σ2 cls d y r2 q z => h ρ2 H2 σ2 cls d (x.trans y) r2 q z
theorem PostS.ext {ρ' : Rho} {H' : Hp} {r : RS} (x : Ext ρ H ρ' H') (h : PostS c D Wx ρ H r) : PostS c D Wx ρ' H' r := by
  cases r with
  | bad => exact h
  | nx e2 s2 => exact fun ρ2 H2 σ2 y r2 q => h ρ2 H2 σ2 (x.trans y) r2 q
  | brk e2 s2 => exact fun ρ2 H2 σ2 y r2 q => h ρ2 H2 σ2 (x.trans y) r2 q
  | ct e2 s2 => exact fun ρ2 H2 σ2 y r2 q => h ρ2 H2 σ2 (x.trans y) r2 q
  | ret w2 s2 => exact fun ρ2 H2 v y r2 q => h ρ2 H2 v (x.trans y) r2 q
  | exc k l e2 s2 => exact fun ρ2 H2 σ2 cls d y r2 q z => h ρ2 H2 σ2 cls d (x.trans y) r2 q z
theorem PostS.ofW {r : R Walk} {f : Walk → St → RS} (re : REnv c ρ H env σ) (h : PostS c D Wx ρ H (RS.ofW env r f)) : Post c (fun k d H' => Wx k d σ H') ρ H r fun w st' ρ' H' => PostS c D Wx ρ' H' (f w st') := by
  cases r with
  | bad => exact h
  | exc k l s => exact fun ρ' H' cls d x r z => h ρ' H' σ cls d x r (re.ext x) z
  | ok w s => exact fun ρ1 H1 x r1 => PostS.ext x (show PostS c D Wx ρ H (f w s) from h)
theorem PostS.nx {e : Env} {st : St} (h : PostS c D Wx ρ H (.nx e st)) (r : Rel c ρ H st) (re : REnv c ρ H e σ) : D.nx σ H := h ρ H σ Ext.refl r re
end

section
variable {X : Cx} {c : Cfg} {N : List Str} {sc : Scope} {k : Nat} {Wx : WX} {ea eb ec : Env → St → R W} {er : Env → St → R (List W)} {a b d : Expr} {es : List Expr} {pos : Pos}
/-! ### small statements -/
theorem swaps_plain {e : Expr} {t : Option Expr} {l : Nat} {env : PySem.Env} (h : notComp e = true) : swapsWith e t l env = pure false := by
  cases e <;> first | rfl | cases h
theorem S_ex (h : notComp a = true) (ha : PE X a (tE c Wx ea)) : PS X (.Expr a pos) (tS c Wx fun e s => RS.of e (ea e s) fun _ s => .nx e s) :=
  PS.weak (ps_expr ha (swaps_plain h)) fun D σ H q => by
    obtain ⟨ρ, st, env, r, re, q⟩ := q
    exact ⟨ρ, st, env, r, re, (PostS.of re q).imp fun w st' ρ' H' _ x r' q v rv => q.nx r' (re.ext x)⟩
theorem S_ret (ha : PE X a (tE c Wx ea)) : PS X (.Return (some a) pos) (tS c Wx fun e s => RS.of e (ea e s) fun w s => .ret w s) :=
  PS.weak (ps_ret ha) fun D σ H q => by
    obtain ⟨ρ, st, env, r, re, q⟩ := q
    exact ⟨ρ, st, env, r, re, (PostS.of re q).imp fun w st' ρ' H' _ x r' q v rv => q ρ' H' v Ext.refl r' rv⟩
theorem S_retN : PS X (.Return none pos) (tS c Wx fun e s => RS.of e (.ok .non s) fun w s => .ret w s) :=
  PS.weak ps_retN fun D σ H q => by
    obtain ⟨ρ, st, env, r, re, q⟩ := q
    exact (show PostS c D Wx ρ H (.ret .non st) from q) ρ H .non Ext.refl r of_non
theorem S_pass : PS X (.Pass pos) (tS c Wx fun e s => .nx e s) :=
  PS.weak ps_pass fun D σ H q => by
    obtain ⟨ρ, st, env, r, re, q⟩ := q
    exact PostS.nx q r re
theorem S_brk : PS X (.Break pos) (tS c Wx fun e s => .brk e s) :=
  PS.weak ps_break fun D σ H q => by
    obtain ⟨ρ, st, env, r, re, q⟩ := q
    exact q ρ H σ Ext.refl r re
theorem S_ct : PS X (.Continue pos) (tS c Wx fun e s => .ct e s) :=
  PS.weak ps_continue fun D σ H q => by
    obtain ⟨ρ, st, env, r, re, q⟩ := q
    exact q ρ H σ Ext.refl r re
theorem asg_of {i : Nat} {te : TE} (hte : te = tE c Wx ea) : ∀ D σ H, tS c Wx (fun e s => RS.of e (ea e s) fun w s => .nx (e.set i (some w)) s) D σ H → tAsg te (gName i) D σ H := fun D σ H q => by
  subst hte
  obtain ⟨ρ, st, env, r, re, q⟩ := q
  exact ⟨ρ, st, env, r, re, (PostS.of re q).imp fun w st' ρ' H' _ x r' q v rv => q.nx r' ((re.ext x).set i rv)⟩
theorem S_set {i : Nat} {x : Str} {pos' : Pos} (G : Good c N X sc k) (hl : locB sc x = true) (hi : nameAt N i x = true) (h : swapsWith a (some (.Name x pos')) pos.line X.env = pure false) (ha : PE X a (tE c Wx ea)) :
    PS X (.Assign [.Name x pos'] a pos) (tS c Wx fun e s => RS.of e (ea e s) fun w s => .nx (e.set i (some w)) s) := by
  obtain ⟨l1, l2⟩ := G.loc x hl
  exact PS.weak (ps_set (i := i) (by rw [G.hN]; exact G.nd) (by rw [G.hN]; exact nameAt_of hi) l1 ha h l2) (asg_of rfl)
theorem S_setT {is : List Nat} {ts : List Expr} {n : Nat} {p : Pos} (G : Good c N X sc k) (ht : tgB sc N ts is = true) (hn : notTuple a = true) (ha : PE X a (tE c Wx ea)) :
    PS X (.Assign [.Tuple ts n p] a pos) (tS c Wx fun e s => RS.of e (ea e s) fun w s => (match listOf s w with
      | some l => nxO s (setMany is l e)
      | none => .bad)) := by
  obtain ⟨h1, h2, h3⟩ := G_names G ht
  have hs : swapsWithSole [.Tuple ts n p] a pos.line X.env = pure false := by cases a <;> rfl
  have hw : swappedStores [.Tuple ts n p] a X.env = pure none := by cases a <;> first | rfl | cases hn
  have g1 : PG X (.Tuple ts n p) (gTup X.K is.length (gNs is)) := pg_tup G.calm h1 h2 h3
  have g2 : PG X (.Tuple ts n p) (gUnl X.K is.length (gNs is)) := pg_unl G.calm h1 h2 h3
  have g : PG X (.Tuple ts n p) (fun v σ H Q => gTup X.K is.length (gNs is) v σ H Q ∨ gUnl X.K is.length (gNs is) v σ H Q) := ⟨fun pins s σ H v u Q I r h => by
    rcases h with h | h
    · exact g1.run pins s σ H v u Q I r h
    · exact g2.run pins s σ H v u Q I r h⟩
  refine PS.weak (ps_asg ha g hs hw) fun D σ H q => ?_
  obtain ⟨ρ, st, env, r, re, q⟩ := q
  refine ⟨ρ, st, env, r, re, (PostS.of re q).imp fun w st' ρ' H' _ x r' q v rv => ?_⟩
  split at q
  · rename_i l e
    obtain ⟨a', xs, rfl, rs, hq⟩ := listOf_ok r' rv e
    cases em : setMany is l env with
    | none => rw [em] at q; exact q.elim
    | some e' =>
      rw [em] at q
      obtain ⟨σ', e1, re'⟩ := setMany_rel (is := is) (ws := l) em rs (re.ext x)
      have hl : xs.length = is.length := by
        have : ∀ {is : List Nat} {vs : List V} {σ σ' : L2.St}, setSt is vs σ = some σ' → vs.length = is.length := by
          intro is
          induction is with
          | nil => intro vs σ σ' e; cases vs <;> first | rfl | cases e
          | cons i is ih => intro vs σ σ' e; cases vs with
            | nil => cases e
            | cons v vs => rw [List.length_cons, List.length_cons, ih e]
        exact this e1
      have hD : D.nx σ' H' := PostS.nx q r' re'
      rcases hq with hq | hq
      · exact .inr ⟨a', xs, rfl, by rw [G.hK]; exact hq, hl, gNs_of e1 hD⟩
      · exact .inl ⟨a', xs, rfl, by rw [G.hK]; exact hq, hl, gNs_of e1 hD⟩
  · exact q.elim
theorem S_ite {ss1 ss2 : List Stmt} {f g : Env → St → RS} (hd : PT X d (tT c Wx ec)) (ha : PSs X ss1 (tS c Wx f)) (hb : PSs X ss2 (tS c Wx g)) :
    PS X (.If d ss1 ss2 pos) (tS c Wx fun e s => RS.of e (ec e s) fun w s => (match truth s w with
      | some true => f e s
      | some false => g e s
      | none => .bad)) :=
  PS.weak (ps_if hd ha hb) fun D σ H q => by
    obtain ⟨ρ, st, env, r, re, q⟩ := q
    refine ⟨ρ, st, env, r, re, (PostS.of re q).imp fun w st' ρ' H' _ x r' q => ?_⟩
    split at q
    · rename_i e
      exact ⟨true, e, iteT ⟨ρ', st', env, r', re.ext x, q⟩⟩
    · rename_i e
      exact ⟨false, e, iteF ⟨ρ', st', env, r', re.ext x, q⟩⟩
    · exact q.elim
/-! ### blocks -/
theorem SS_nil : PSs X [] (tS c Wx fun e s => .nx e s) := PSs.weak pss_nil fun D σ H q => by
  obtain ⟨ρ, st, env, r, re, q⟩ := q
  exact PostS.nx q r re
theorem SS_cons {s : Stmt} {ss : List Stmt} {f g : Env → St → RS} (ha : PS X s (tS c Wx f)) (hb : PSs X ss (tS c Wx g)) : PSs X (s :: ss) (tS c Wx fun e s => (match f e s with
    | .nx e2 s2 => g e2 s2
    | q => q)) :=
  PSs.weak (pss_cons ha hb) fun D σ H q => by
    obtain ⟨ρ, st, env, r, re, q⟩ := q
    refine ⟨ρ, st, env, r, re, ?_⟩
    dsimp only at q
    revert q
    cases f env st with
    | nx e2 s2 => exact fun q ρ' H' σ' x r' re' => ⟨ρ', s2, e2, r', re', PostS.ext x q⟩
    | ret w s => exact fun q => q
    | brk e s => exact fun q => q
    | ct e s => exact fun q => q
    | exc _ _ _ _ => exact fun q => q
    | bad => exact fun q => q

/-! ### loops -/
theorem lp_of {σ ρ : Type} {f : σ → Sum σ ρ} {s : σ} {r : ρ} (h : lp f s = some r) : ∃ n, lpN f n s = some r := by
  unfold lp at h
  split at h
  · rename_i hx
    cases h
    exact ⟨_, Classical.choose_spec (Classical.choose_spec hx)⟩
  · cases h
theorem S_whl {b : List Stmt} {g : Env → St → RS} (hp : PassesOwn (model X.prog X.w) X.A X.env X.xe) (hd : PT X d (tT c Wx ec)) (hb : PSs X b (tS c Wx g)) :
    PS X (.While d b [] pos) (tS c Wx fun e s => (lp (fun (es : Env × St) => (match ec es.1 es.2 with
      | .ok w s2 => (match truth s2 w with
        | some true => (match g es.1 s2 with
          | .nx e3 s3 => Sum.inl (e3, s3)
          | .ct e3 s3 => Sum.inl (e3, s3)
          | .brk e3 s3 => Sum.inr (.nx e3 s3)
          | r => Sum.inr r)
        | some false => Sum.inr (.nx es.1 s2)
        | none => Sum.inr .bad)
      | .exc c l s2 => Sum.inr (.exc c l es.1 s2)
      | .bad => Sum.inr .bad)) (e, s)).getD .bad) :=
  PS.weak (ps_while hp hd hb) fun D σ H q => by
    obtain ⟨ρ, st, env, r, re, q⟩ := q
    dsimp only at q
    generalize hF : (fun (es : Env × St) => (match ec es.1 es.2 with
      | .ok w s2 => (match truth s2 w with
        | some true => (match g es.1 s2 with
          | .nx e3 s3 => Sum.inl (e3, s3)
          | .ct e3 s3 => Sum.inl (e3, s3)
          | .brk e3 s3 => Sum.inr (RS.nx e3 s3)
          | r => Sum.inr r)
        | some false => Sum.inr (.nx es.1 s2)
        | none => Sum.inr .bad)
      | .exc c l s2 => Sum.inr (.exc c l es.1 s2)
      | .bad => Sum.inr .bad)) = F at q
    cases el : lp F (env, st) with
    | none => rw [el] at q; exact q.elim
    | some R0 =>
      rw [el] at q
      have q : PostS c D Wx ρ H R0 := q
      obtain ⟨n0, e0⟩ := lp_of el
      refine ⟨fun m σ H => ∃ ρ st env, Rel c ρ H st ∧ REnv c ρ H env σ ∧ lpN F m (env, st) = some R0 ∧ PostS c D Wx ρ H R0, ⟨n0, ρ, st, env, r, re, e0, q⟩, ?_⟩
      rintro m σ H ⟨ρ, st, env, r, re, e0, q⟩
      cases m with
      | zero => cases e0
      | succ m =>
        unfold lpN at e0
        have hFe := congrFun hF (env, st)
        rw [← hFe] at e0
        dsimp only at e0
        refine ⟨ρ, st, env, r, re, ?_⟩
        cases e1 : ec env st with
        | bad =>
          rw [e1] at e0
          cases e0
          exact q.elim
        | exc k l s2 =>
          rw [e1] at e0
          cases e0
          exact fun ρ' H' cls d' x r' z => q ρ' H' σ cls d' x r' (re.ext x) z
        | ok w s2 =>
          rw [e1] at e0
          dsimp only at e0
          intro ρ1 H1 x1 r1
          cases e2 : truth s2 w with
          | none =>
            rw [e2] at e0
            cases e0
            exact q.elim
          | some t =>
            refine ⟨t, rfl, ?_⟩
            cases t with
            | false =>
              rw [e2] at e0
              cases e0
              exact iteF (q ρ1 H1 σ x1 r1 (re.ext x1))
            | true =>
              rw [e2] at e0
              dsimp only at e0
              refine iteT ⟨fun σ' H' => ∃ ρ st env, Rel c ρ H' st ∧ REnv c ρ H' env σ' ∧ lpN F m (env, st) = some R0 ∧ PostS c D Wx ρ H' R0, fun σ' H' z => ⟨m, Nat.lt_succ_self m, z⟩, ρ1, s2, env, r1, re.ext x1, ?_⟩
              cases e3 : g env s2 with
              | nx e4 s4 =>
                rw [e3] at e0
                exact fun ρ' H' σ' x r' re' => ⟨ρ', s4, e4, r', re', e0, PostS.ext (x1.trans x) q⟩
              | ct e4 s4 =>
                rw [e3] at e0
                exact fun ρ' H' σ' x r' re' => ⟨ρ', s4, e4, r', re', e0, PostS.ext (x1.trans x) q⟩
              | brk e4 s4 =>
                rw [e3] at e0
                cases e0
                exact fun ρ' H' σ' x r' re' => q ρ' H' σ' (x1.trans x) r' re'
              | ret w4 s4 =>
                rw [e3] at e0
                cases e0
                exact fun ρ' H' v x r' rv => q ρ' H' v (x1.trans x) r' rv
              | exc k4 l4 e4 s4 =>
                rw [e3] at e0
                cases e0
                exact fun ρ' H' σ' cls d' x r' re' z => q ρ' H' σ' cls d' (x1.trans x) r' re' z
              | bad =>
                rw [e3] at e0
                cases e0
                exact q.elim
theorem S_for {tg : Tg} {tgt iter : Expr} {b : List Stmt} {g : Env → St → RS} {ei : Env → St → R Walk} (G : Good c N X sc k) (hp : PassesOwn (model X.prog X.w) X.A X.env X.xe) (hi : PI X tgt iter (tI c Wx ei)) (hs : ∀ x, foldedSetIterable iter X.env x = pure x) (ht : targB sc N tgt tg = true) (hb : PSs X b (tS c Wx g)) :
    PS X (.For tgt iter b [] pos) (tS c Wx fun e s => RS.ofW e (ei e s) fun wk s => forL wk.chk tg g wk.items e s) :=
  PS.weak (ps_for hp G.calm hi (G_targ G ht) hb hs) fun D σ H q => by
    obtain ⟨ρ, st, env, r, re, q⟩ := q
    refine ⟨ρ, st, env, r, re, (PostS.ofW re q).imp fun wk st1 ρ1 H1 _ x1 r1 q J hJ => ?_⟩
    refine ⟨fun i m σ H => m = wk.items.length - i ∧ i ≤ wk.items.length ∧ ∃ ρ st env, Ext ρ1 H1 ρ H ∧ Rel c ρ H st ∧ REnv c ρ H env σ ∧ PostS c D Wx ρ H (forL wk.chk tg g (wk.items.drop i) env st),
      ⟨wk.items.length, by simp, Nat.zero_le _, ρ1, st1, env, Ext.refl, r1, re.ext x1, q⟩, ?_⟩
    rintro i m σ2 H2 ⟨rfl, hle, ρ2, st2, env2, x2, r2, re2, q2⟩
    by_cases hlt : i < wk.items.length
    · rw [List.drop_eq_getElem_cons hlt] at q2
      unfold forL at q2
      split at q2
      · rename_i hchk
        split at q2
        · rename_i e' eT
          have WK := (hJ ρ2 H2 st2 x2.tr r2 hchk i).1 _ (List.getElem?_eq_getElem hlt)
          refine .inr ⟨WK.1, fun σ' H' => ∃ ρ st env, Ext ρ1 H1 ρ H' ∧ Rel c ρ H' st ∧ REnv c ρ H' env σ' ∧ PostS c D Wx ρ H' (forL wk.chk tg g (wk.items.drop (i + 1)) env st),
            fun σ' H' z => ⟨wk.items.length - (i + 1), by omega, rfl, hlt, z⟩, fun x H3 hy => ?_⟩
          obtain ⟨y1, y2, y3⟩ := WK.2 x H3 hy
          refine ⟨ρ2, st2, env2, _, e', y2, re2.ext y1, y3, eT, fun σ' re5 _ _ => ⟨ρ2, st2, e', y2, re5, ?_⟩⟩
          cases e3 : g e' st2 with
          | nx e4 s4 =>
            rw [e3] at q2
            exact fun ρ' H' σ' x r' re' => ⟨ρ', s4, e4, (x2.trans y1).trans x, r', re', PostS.ext (y1.trans x) q2⟩
          | ct e4 s4 =>
            rw [e3] at q2
            exact fun ρ' H' σ' x r' re' => ⟨ρ', s4, e4, (x2.trans y1).trans x, r', re', PostS.ext (y1.trans x) q2⟩
          | brk e4 s4 =>
            rw [e3] at q2
            exact fun ρ' H' σ' x r' re' => q2 ρ' H' σ' (y1.trans x) r' re'
          | ret w4 s4 =>
            rw [e3] at q2
            exact fun ρ' H' v x r' rv => q2 ρ' H' v (y1.trans x) r' rv
          | exc k4 l4 e4 s4 =>
            rw [e3] at q2
            exact fun ρ' H' σ' cls d' x r' re' z => q2 ρ' H' σ' cls d' (y1.trans x) r' re' z
          | bad =>
            rw [e3] at q2
            exact q2.elim
        · exact q2.elim
      · exact q2.elim
    · have e : i = wk.items.length := by omega
      subst e
      rw [List.drop_length] at q2
      unfold forL at q2
      split at q2
      · rename_i hchk
        exact .inl ⟨(hJ ρ2 H2 st2 x2.tr r2 hchk _).2 (Nat.le_refl _), PostS.nx q2 r2 re2⟩
      · exact q2.elim

/-! ### stores that are exchanged -/
theorem ne_of_dec {x y : Str} (h : decide (x = y) = false) : x ≠ y := of_decide_eq_false h
theorem swapped2 {x y : Str} {px py p p2 : Pos} {n m : Nat} {env : PySem.Env} (hk : env.scope.kind = .function) (hx : env.kindOf x = some .local) (hy : env.kindOf y = some .local) (hl : py.line = px.line) (hn : x ≠ y) (ha : notStar a = true) (hb : notStar b = true)
    (h1 : [a, b].all (foldedForSure 8) = false) (h2 : [a, b].all (constantsAlone 8) = false) : swappedStores [.Tuple [.Name x px, .Name y py] n p] (.Tuple [a, b] m p2) env = pure (some [x, y]) := by
  have e1 : env.blockKind = .function := by unfold Env.blockKind; rw [hk]; rfl
  have e2 : ([a, b].any fun | .Starred .. => true | _ => false) = false := by
    cases a <;> cases b <;> first | rfl | (cases ha; done) | (cases hb; done)
  have e3 : ([x, y].eraseDups.length != [x, y].length) = false := by
    have : (y == x) = false := by simpa using Ne.symm hn
    simp [List.eraseDups_cons, this, hn, Ne.symm hn]
  unfold swappedStores
  simp only [e1, List.length_cons, List.length_nil]
  simp only [e2, Expr.pos, List.head?_cons, Option.map_some, Option.getD_some, List.filterMap_cons, List.filterMap_nil, hx, hy, hl, beq_self_eq_true, Bool.and_self, if_true, h1, h2]
  simp only [e3]
  refine (if_neg (by decide)).trans ((if_neg (fun h => Bool.false_ne_true (e2.symm.trans h))).trans ((if_neg (by simp)).trans ((if_neg (by simp)).trans (if_neg (by simp)))))
theorem S_par2 {i j : Nat} {x y : Str} {px py p p2 : Pos} {n m : Nat} (G : Good c N X sc k) (hk : X.env.scope.kind = .function) (hx : X.env.kindOf x = some .local) (hy : X.env.kindOf y = some .local) (hi : N[i]? = some x) (hj : N[j]? = some y) (hl : py.line = px.line) (hn : x ≠ y)
    (h1 : [a, b].all (foldedForSure 8) = false) (h2 : [a, b].all (constantsAlone 8) = false) (sa : notStar a = true) (sb : notStar b = true) (ha : PA X [a, b] (tEs c Wx er)) :
    PS X (.Assign [.Tuple [.Name x px, .Name y py] n p] (.Tuple [a, b] m p2) pos) (tS c Wx fun e s => RS.ofL e (er e s) fun ws s => nxO s (setMany [i, j] ws e)) := by
  have hij : i ≠ j := fun e => hn (by subst e; rw [hi] at hj; exact Option.some.inj hj)
  refine PS.weak (ps_par (i := i) (j := j) G.calm (by rw [G.hN]; exact G.nd) (by rw [G.hN]; exact hi) (by rw [G.hN]; exact hj) hij hx hy ha (swapped2 hk hx hy hl hn sa sb h1 h2)) fun D σ H q => ?_
  obtain ⟨ρ, st, env, r, re, q⟩ := q
  refine ⟨ρ, st, env, r, re, (PostS.ofL re q).imp fun ws st' ρ' H' _ x' r' q vs rv => ?_⟩
  cases em : setMany [i, j] ws env with
  | none => rw [em] at q; exact q.elim
  | some e' =>
    rw [em] at q
    obtain ⟨σ', e1, re'⟩ := setMany_rel (is := [i, j]) (ws := ws) em rv (re.ext x')
    match vs, e1 with
    | [v, w], e1 =>
      cases e1
      exact ⟨v, w, rfl, PostS.nx q r' re'⟩

theorem swapped3 {x y z : Str} {px py pz p p2 : Pos} {n m : Nat} {env : PySem.Env} (hk : env.scope.kind = .function) (hx : env.kindOf x = some .local) (hy : env.kindOf y = some .local) (hz : env.kindOf z = some .local) (hl : py.line = px.line) (hl2 : pz.line = px.line) (hn : x ≠ y) (hn2 : x ≠ z) (hn3 : y ≠ z) (ha : notStar a = true) (hb : notStar b = true) (hd : notStar d = true)
    (h1 : [a, b, d].all (foldedForSure 8) = false) (h2 : [a, b, d].all (constantsAlone 8) = false) : swappedStores [.Tuple [.Name x px, .Name y py, .Name z pz] n p] (.Tuple [a, b, d] m p2) env = pure (some [x, y, z]) := by
  have e1 : env.blockKind = .function := by unfold Env.blockKind; rw [hk]; rfl
  have e2 : ([a, b, d].any fun | .Starred .. => true | _ => false) = false := by
    have s1 : (match (generalizing := false) a with | .Starred .. => true | _ => false) = false := by cases a <;> first | rfl | (cases ha; done)
    have s2 : (match (generalizing := false) b with | .Starred .. => true | _ => false) = false := by cases b <;> first | rfl | (cases hb; done)
    have s3 : (match (generalizing := false) d with | .Starred .. => true | _ => false) = false := by cases d <;> first | rfl | (cases hd; done)
    simp only [List.any_cons, List.any_nil]
    rw [s1, s2, s3]; rfl
  have e3 : ([x, y, z].eraseDups.length != [x, y, z].length) = false := by
    have q1 : (y == x) = false := by simpa using Ne.symm hn
    have q2 : (z == x) = false := by simpa using Ne.symm hn2
    have q3 : (z == y) = false := by simpa using Ne.symm hn3
    simp [List.eraseDups_cons, q1, q2, q3, hn, Ne.symm hn, hn2, Ne.symm hn2, hn3, Ne.symm hn3]
  unfold swappedStores
  simp only [e1, List.length_cons, List.length_nil]
  simp only [e2, Expr.pos, List.head?_cons, Option.map_some, Option.getD_some, List.filterMap_cons, List.filterMap_nil, hx, hy, hz, hl, hl2, beq_self_eq_true, Bool.and_self, if_true, h1, h2]
  simp only [e3]
  refine (if_neg (by decide)).trans ((if_neg (fun h => Bool.false_ne_true (e2.symm.trans h))).trans ((if_neg (by simp)).trans ((if_neg (by simp)).trans (if_neg (by simp)))))
theorem S_par3 {i j l : Nat} {x y z : Str} {px py pz p p2 : Pos} {n m : Nat} (G : Good c N X sc k) (hk : X.env.scope.kind = .function) (hx : X.env.kindOf x = some .local) (hy : X.env.kindOf y = some .local) (hz : X.env.kindOf z = some .local) (hi : N[i]? = some x) (hj : N[j]? = some y) (hl : N[l]? = some z) (ln : py.line = px.line) (ln2 : pz.line = px.line) (hn : x ≠ y) (hn2 : x ≠ z) (hn3 : y ≠ z)
    (h1 : [a, b, d].all (foldedForSure 8) = false) (h2 : [a, b, d].all (constantsAlone 8) = false) (sa : notStar a = true) (sb : notStar b = true) (sd : notStar d = true) (ha : PA X [a, b, d] (tEs c Wx er)) :
    PS X (.Assign [.Tuple [.Name x px, .Name y py, .Name z pz] n p] (.Tuple [a, b, d] m p2) pos) (tS c Wx fun e s => RS.ofL e (er e s) fun ws s => nxO s (setMany [i, j, l] ws e)) := by
  have ne : ∀ {i j : Nat} {x y : Str}, N[i]? = some x → N[j]? = some y → x ≠ y → i ≠ j := fun hi hj hn e => hn (by subst e; rw [hi] at hj; exact Option.some.inj hj)
  refine PS.weak (ps_par3 (i := i) (j := j) (l := l) G.calm (by rw [G.hN]; exact G.nd) (by rw [G.hN]; exact hi) (by rw [G.hN]; exact hj) (by rw [G.hN]; exact hl) (ne hi hj hn) (ne hi hl hn2) (ne hj hl hn3) hx hy hz ha (swapped3 hk hx hy hz ln ln2 hn hn2 hn3 sa sb sd h1 h2)) fun D σ H q => ?_
  obtain ⟨ρ, st, env, r, re, q⟩ := q
  refine ⟨ρ, st, env, r, re, (PostS.ofL re q).imp fun ws st' ρ' H' _ x' r' q vs rv => ?_⟩
  cases em : setMany [i, j, l] ws env with
  | none => rw [em] at q; exact q.elim
  | some e' =>
    rw [em] at q
    obtain ⟨σ', e1, re'⟩ := setMany_rel (is := [i, j, l]) (ws := ws) em rv (re.ext x')
    match vs, e1 with
    | [v, w, u], e1 =>
      cases e1
      exact ⟨v, w, u, rfl, PostS.nx q r' re'⟩

/-! ### a comprehension given to a name -/
theorem swaps_lc {elt : Expr} {gs : List Comprehension} {scope : Scope} {p py : Pos} {y : Str} {l : Nat} {env : PySem.Env} : swapsWith (.ListComp elt gs scope p) (some (.Name y py)) l env = pure (env.blockKind == .function && env.kindOf y == some .local && py.line == p.line && !(scope.names.any fun (n, k) => n == y && (k == .local || k == .cell))) := rfl

/-! ### o[i] = e -/
theorem assign_sub {o i : Expr} {p2 : Pos} {env : PySem.Env} (h : notSlice i = true) : ∀ v, assign (.Subscript o i p2) env v = (do
      let ov ← holding [v] (eval o env)
      let iv ← holding [v, ov] (eval i env)
      standAt p2
      holding [v, ov, iv] (setItem ov iv v)
      release [v, ov, iv] []) := by
  intro v
  cases i <;> first | rfl | cases h
theorem swaps_sub {o i e : Expr} {p2 : Pos} {l : Nat} {env : PySem.Env} (h : notComp e = true) : swapsWithSole [.Subscript o i p2] e l env = pure false := by
  cases e <;> first | rfl | cases h
theorem S_setI [Pwx X c] {o i e : Expr} {p2 : Pos} {ee eo ei : Env → St → R W} (hu : X.A.units + 64 < cLine) (hK : X.K = c.K) (hn : notComp e = true) (hs : notSlice i = true) (he : PE X e (tE c Wx ee)) (ho : PE X o (tE c Wx eo)) (hi : PE X i (tE c Wx ei)) :
    PS X (.Assign [.Subscript o i p2] e pos) (tS c Wx fun env s => RS.of env (ee env s) fun w s => RS.of env (eo env s) fun x s => RS.of env (ei env s) fun y s => (match setIW s x y w with
      | some s' => .nx env s'
      | none => .bad)) := by
  refine PS.weak (ps_asg he (pg_sub ho hi (set_W (c := c) hu hK) (assign_sub hs)) (swaps_sub hn) (by cases e <;> rfl)) fun D σ H q => ?_
  obtain ⟨ρ, st, env, r, re, q⟩ := q
  refine ⟨ρ, st, env, r, re, (PostS.of re q).imp fun w st1 ρ1 H1 _ x1 r1 q v rv => ?_⟩
  refine ⟨ρ1, st1, env, r1, re.ext x1, (PostS.of (re.ext x1) q).imp fun x st2 ρ2 H2 _ x2 r2 q o ro => ?_⟩
  refine ⟨ρ2, st2, env, r2, (re.ext x1).ext x2, (PostS.of ((re.ext x1).ext x2) q).imp fun y st3 ρ3 H3 _ x3 r3 q i ri => ?_⟩
  cases e : setIW st3 x y w with
  | none => rw [e] at q; exact q.elim
  | some st' =>
    rw [e] at q
    exact ⟨ρ3, st3, x, y, w, st', r3, ro.ext x3, ri, (rv.ext x2).ext x3, e, fun H' xx rr => q ρ3 H' σ xx rr ((((re.ext x1).ext x2).ext x3).ext xx)⟩
/-! ### o.f = e -/
theorem S_setF {o e : Expr} {fn : Str} {g : Nat} {p2 : Pos} {ee eo : Env → St → R W} (gx : GlobX c X.K) (hn : notComp e = true) (hf : c.nm.fld[g]? = some fn) (he : PE X e (tE c Wx ee)) (ho : PE X o (tE c Wx eo)) :
    PS X (.Assign [.Attribute o fn p2] e pos) (tS c Wx fun env s => RS.of env (ee env s) fun w s => RS.of env (eo env s) fun x s => (match setFW s x g w with
      | some s' => .nx env s'
      | none => .bad)) := by
  refine PS.weak (ps_fld ho he (swaps_plain hn)) fun D σ H q => ?_
  obtain ⟨ρ, st, env, r, re, q⟩ := q
  refine ⟨ρ, st, env, r, re, (PostS.of re q).imp fun w st1 ρ1 H1 _ x1 r1 q v rv => ?_⟩
  refine ⟨ρ1, st1, env, r1, re.ext x1, (PostS.of (re.ext x1) q).imp fun x st2 ρ2 H2 _ x2 r2 q o ro => ?_⟩
  cases e : setFW st2 x g w with
  | none => rw [e] at q; exact q.elim
  | some st' =>
    rw [e] at q
    unfold setFW at e
    split at e
    · rename_i n
      split at e
      · rename_i k fs el
        split at e
        · rename_i hl
          cases e
          simp only [RelW] at ro
          obtain ⟨a, e1, rfl⟩ := ro
          obtain ⟨a', e2, hk, dx, gs, e3, rf⟩ := r2.at_n el
          rw [e1] at e2; cases e2
          obtain ⟨i, ei⟩ := Option.isSome_iff_exists.mp hk
          obtain ⟨C, na⟩ := gx.own k i ei
          have hlen : gs.length = fs.length := (Paired.length rf).symm
          refine ⟨a, c.A k, dx, gs, rfl, e3, C, na g fn hf, by rw [hlen]; exact hl, ?_⟩
          have xw : Ext ρ2 H2 ρ2 (upd H2 a (.ins (c.A k) dx (putF fn v gs))) := Ext.write e1
          refine q ρ2 _ σ xw (r2.write e1 ⟨hk, dx, _, upd_same, ?_⟩) (((re.ext x1).ext x2).ext xw)
          exact RelF.put gx.fok hf ((rv.ext x2).ext xw) (rf.tr xw.tr)
        · cases e
      · cases e
    · cases e
/-! ### raise, try -/
theorem S_rse0 {x : Str} {p p2 : Pos} {n : Nat} (G : Good c N X sc k) (tk : Takes X Wx) (E : Exc0 X.K (c.A n)) (gC : X.mg x = some (.ref (c.A n))) (hg : Gl X x) (hdb : (x == ("__debug__" : Str)) = false) :
    PS X (.Raise (some (.Call (.Name x p) [] [] p2)) none pos) (tS c Wx fun e s => RS.ofL e (R.ok [] s) fun ws s => .exc n ws e s) :=
  PS.weak (ps_raise G.calm tk (pmk_own0 E gC hg hdb)) fun D σ H q => by
    obtain ⟨ρ, st, env, r, re, q⟩ := q
    exact (show PostS c D Wx ρ H (.exc n [] env st) from q) ρ H σ _ _ Ext.refl r re ⟨rfl, .inl ⟨rfl, rfl⟩⟩
theorem S_rse1 {x : Str} {p p2 : Pos} {n g : Nat} {f : Str} {a : Expr} {ea : Env → St → R W} (G : Good c N X sc k) (k2 : 2 ≤ k) (tk : Takes X Wx) (eg : c.nm.exf.lookup n = some g) (ef : c.nm.fld[g]? = some f) (E : Exc1 X.prog X.w X.K X.mg X.base (c.A n) f) (gC : X.mg x = some (.ref (c.A n))) (hg : Gl X x) (hdb : (x == ("__debug__" : Str)) = false)
    (hs : notStar a = true) (ha : PE X a (tE c Wx ea)) :
    PS X (.Raise (some (.Call (.Name x p) [a] [] p2)) none pos) (tS c Wx fun e s => RS.ofL e ((ea e s).bind fun w s => .ok [w] s) fun ws s => .exc n ws e s) := by
  obtain ⟨fI, fd, ps, i1, i2, F1, hb⟩ := E.fn
  have hA : PA X [a] (tEs c Wx fun e s => (ea e s).bind fun w s => .ok [w] s) := A_cons hs ha A_nil
  refine PS.weak (ps_raise G.calm tk (pmk_oex E.T i1 i2 F1 (G.room.mono k2) hb .nil pass_f hg gC hA hdb (star_cons hs) rfl)) fun D σ H q => ?_
  obtain ⟨ρ, st, env, r, re, q⟩ := q
  refine ⟨ρ, st, env, r, re, (PostS.ofL re q).imp fun ws st' ρ' H' er x' r' q vs rv => ?_⟩
  obtain ⟨w, rfl⟩ : ∃ w, ws = [w] := by
    cases e1 : ea env st with
    | ok w s2 => rw [e1] at er; cases er; exact ⟨w, rfl⟩
    | exc _ _ _ => rw [e1] at er; cases er
    | bad => rw [e1] at er; cases er
  simp only [RelL] at rv
  obtain ⟨y, ys, rfl, r1, rfl⟩ := rv
  refine ⟨by simp, fun b hb => ⟨b, y, rfl, upd_same, fun dx hd hn => ⟨rfl, dx, [(f, y)], upd_same, ?_, ?_, ?_⟩⟩⟩
  · rw [upd_ne hn, upd_same]
  · rw [upd_ne hn] at hd; exact hd
  · rw [upd_ne hn] at hd
    have eH : upd (del (upd (upd (upd H' b (exo b (c.A n) none)) dx (exd dx [(f, y)])) b (exo b (c.A n) (some dx))) b) dx (.xd [(f, y)]) = upd H' dx (.xd [(f, y)]) := by
      funext z
      by_cases h1 : z = dx
      · subst h1; rw [upd_same, upd_same]
      · rw [upd_ne h1, upd_ne h1]
        by_cases h2 : z = b
        · subst h2; rw [del_same, hb]
        · rw [del_ne h2, upd_ne h2, upd_ne h1, upd_ne h2]
    rw [eH]
    have q : PostS c D Wx ρ' H' (.exc n [w] env st') := q
    exact q ρ' _ σ _ _ (Ext.fresh hd) (r'.fresh hd) ((re.ext x').ext (Ext.fresh hd)) ⟨rfl, .inr ⟨w, y, dx, rfl, rfl, r1.ext (Ext.fresh hd), f, ⟨g, eg, ef⟩, upd_same, r'.out hd⟩⟩
end
end Px

set_option linter.all false
set_option maxRecDepth 100000
/-! Px10: every statement that the checker takes. -/
namespace Px
open PySem PySem.Spec PyProof.Rows L2

structure GoodS (c : Cfg) (N : List Str) (X : Cx) (sc : Scope) (k : Nat) : Prop extends Good c N X sc k where
  es : X.env.scope = sc
  fk : sc.kind = .function
  stk : X.stack = X.env :: X.outer
  frm : X.env.frame = some X.env.locals
  own : PassesOwn (model X.prog X.w) X.A X.env X.xe
  k2 : 2 ≤ k
  ex0 : X.ex = []
/-- the module's classes -/
structure GlobS (c : Cfg) (P : Program) (w : World) (K : PySem.W.Frag) (mg : Str → Option Value) (base : Heap) (xf : Nat → Nat → Option Bool) (xfl : Nat → Option Nat) : Prop where
  cls : ∀ n x, c.nm.cls[n]? = some x → mg x = some (.ref (c.A n))
  ex0 : ∀ n ∈ c.nm.ex0, Exc0 K (c.A n)
  ex1 : ∀ n g, c.nm.exf.lookup n = some g → ∃ f, c.nm.fld[g]? = some f ∧ Exc1 P w K mg base (c.A n) f
  xfl : ∀ n, xfl n = c.nm.exf.lookup n
  xf : ∀ n m b, xf n m = some b → PySem.W.exmOne K (.ref (c.A n)) (.ref (c.A m)) = some b
section
variable {X : Cx} {c : Cfg} {N : List Str} {sc : Scope} {k : Nat} {Wx : WX}
theorem S_setLc {tg : Tg} {fz : Bool} {ei : Env → St → R Walk} {ec el : Env → St → R W} {elt tgt iter : Expr} {ifs : List Expr} {scope : Scope} {own : List (Str × Nat)} {i : Nat} {y : Str} {py pos spos : Pos} (G : Good c N X sc k) (hl : locB sc y = true) (hi : nameAt N i y = true) (L : LcOk c X Wx tg ei ec el elt tgt iter ifs scope own) :
    PS X (.Assign [.Name y py] (.ListComp elt [⟨tgt, iter, ifs, 0⟩] scope pos) spos) (tS c Wx fun e s => RS.of e ((ei e s).bind fun wk s => (lcL wk.chk tg ec el e wk.items [] s).bind fun l s => newL fz l s) fun w s => .nx (e.set i (some w)) s) := by
  have hs := swaps_lc (elt := elt) (gs := [⟨tgt, iter, ifs, 0⟩]) (scope := scope) (p := pos) (py := py) (y := y) (l := spos.line) (env := X.env)
  cases hb : (X.env.blockKind == .function && X.env.kindOf y == some .local && py.line == pos.line && !(scope.names.any fun (n, k) => n == y && (k == .local || k == .cell))) with
  | false =>
    rw [hb] at hs
    exact S_set G hl hi hs (E_lc (fz := fz) G L)
  | true =>
    rw [hb] at hs
    simp only [Bool.and_eq_true, beq_iff_eq] at hb
    have hyl : X.env.scope.names.lookup y = some .local := hb.1.1.2
    refine PS.weak (ps_setLc (i := i) G.calm (by rw [G.hN]; exact G.nd) (by rw [G.hN]; exact nameAt_of hi) hyl hs L.hi L.ok L.hg L.ht L.he L.hs) fun D σ H q => ?_
    have z := asg_of (ea := fun e s => (ei e s).bind fun wk s => (lcL wk.chk tg ec el e wk.items [] s).bind fun l s => newL fz l s) (i := i) rfl D σ H q
    exact lc_imp L.ho z
theorem GoodS.tr (G : GoodS c N X sc k) {pn : List (Addr × Obj)} {xe : Value → Shared → Prop} (h : PassesOwn (model X.prog X.w) X.A X.env xe) : GoodS c N (X.tr pn xe) sc k :=
  ⟨⟨G.hK, G.hN, G.nd, G.calm, G.room, G.vis, G.loc, G.gl, G.cap, ⟨G.pw.p, G.pw.w⟩⟩, G.es, G.fk, G.stk, G.frm, h, G.k2, G.ex0⟩
theorem GoodS.kindF (G : GoodS c N X sc k) : X.env.scope.kind = .function := by rw [G.es]; exact G.fk
theorem GoodS.kindOf (G : GoodS c N X sc k) {x : Str} {j : NameKind} (h : kindIs sc x j = true) : X.env.kindOf x = some j := by
  show X.env.scope.names.lookup x = some j
  rw [G.es]
  exact of_decide_eq_true h
theorem S_try {xf : Nat → Nat → Option Bool} {xfl : Nat → Option Nat} {b : List Stmt} {g : Env → St → RS} {x y : Str} {i n : Nat} {w : W} {np p1 p2 p3 pos pos' : Pos} {cst : Const} {j : Nat} (G : GoodS c N X sc k) (gs : GlobS c X.prog X.w X.K X.mg X.base xf xfl) (tk : Takes X Wx) (hg : Gl X x) (hdb : (x == ("__debug__" : Str)) = false) (hx : X.mg x = some (.ref (c.A n)))
    (hb : ∀ (W : WX) (pn : List (Addr × Obj)) (xe : Value → Shared → Prop), Takes (X.tr pn xe) W → PassesOwn (model X.prog X.w) X.A X.env xe → PSs (X.tr pn xe) b (tS c W g))
    (hl : locB sc y = true) (hi : nameAt N i y = true) (hc : constB cst w = true) :
    PS X (.Try b [.ExceptHandler (some (.Name x np)) none [.Assign [.Name y p1] (.Constant cst j p2) p3] pos'] [] [] pos) (tS c Wx fun e s => (match g e s with
      | .exc c' l e2 s2 => (match xf c' n with
        | some true => .nx (e2.set i (some w)) s2
        | some false => .exc c' l e2 s2
        | none => .bad)
      | r => r)) := by
  obtain ⟨l1, l2⟩ := G.loc y hl
  refine PS.weak (ps_try_only (ts := fun _ _ _ => tS c (fun _ _ _ _ => False) fun e s => RS.of e (.ok w s) fun w s => .nx (e.set i (some w)) s) G.stk G.frm ⟨hg, hdb, .inl hx⟩ tk hb fun a oe cls d pn _ _ => ?_) fun D σ H q => ?_
  · refine pss_one (PS.weak (ps_set (X := X.suite a ((a, oe) :: pn)) (i := i) (te := tE c (fun _ _ _ _ => False) fun _ s => .ok w s) (by rw [G.hN]; exact G.nd) (by rw [G.hN]; exact nameAt_of hi) l1 (E_k hc) rfl l2) (asg_of rfl))
  · obtain ⟨ρ, st, env, r, re, q⟩ := q
    refine ⟨ρ, st, env, r, re, ?_⟩
    dsimp only at q
    revert q
    cases g env st with
    | nx e s => exact fun q => q
    | ret e s => exact fun q => q
    | brk e s => exact fun q => q
    | ct e s => exact fun q => q
    | bad => exact fun q => q
    | exc c' l e2 s2 =>
      intro q ρ' H' σ' cls d x' r' re' z
      dsimp only at q
      have ecls : cls = .ref (c.A c') := z.1
      subst ecls
      cases ex : xf c' n with
      | none => rw [ex] at q; exact q.elim
      | some t =>
        refine ⟨t, gs.xf c' n t ex, fun ht => ?_, fun ht => ?_⟩
        · subst ht
          rw [ex] at q
          intro a _
          refine ⟨ρ', s2, e2, r', re', ?_⟩
          exact fun ρ2 H2 σ2 y r2 q2 => q ρ2 H2 σ2 (x'.trans y) r2 q2
        · subst ht
          rw [ex] at q
          exact q ρ' H' σ' _ d x' r' re' z

theorem REnv.setF {ρ : Rho} {H : Hp} {env : Env} {σ : L2.St} (h : REnv c ρ H env σ) (i j : Nat) {w : W} {v : V} (x y : Option V) (r : RelW c ρ H w v) : REnv c ρ H ((env.set i (some w)).set j none) (((σ.set j x).set i (some v)).set j y) := by
  refine ⟨by simp only [List.length_set]; exact h.1, fun m u e => ?_⟩
  by_cases h1 : j = m
  · subst h1
    by_cases hl : j < env.length
    · rw [List.getElem?_set_self (by simpa using hl)] at e; cases e
    · rw [List.getElem?_eq_none (by simpa using hl)] at e; cases e
  · rw [List.getElem?_set_ne h1] at e ⊢
    by_cases h2 : i = m
    · subst h2
      by_cases hl : i < env.length
      · rw [List.getElem?_set_self hl] at e
        cases e
        exact ⟨v, List.getElem?_set_self (by rw [List.length_set, ← h.1]; exact hl), r⟩
      · rw [List.getElem?_eq_none (by simpa using hl)] at e; cases e
    · rw [List.getElem?_set_ne h2] at e ⊢
      rw [List.getElem?_set_ne h1]
      exact h.2 m u e
/-- the reading of the field that the caught exception keeps, whatever its class -/
def tXfs (c : Cfg) (a : Addr) (cls : Value) (d : Option Addr) (f : Str) (te : TE) : TE := fun σ H Q => ∃ n g, c.nm.exf.lookup n = some g ∧ c.nm.fld[g]? = some f ∧ tXf a cls d (c.A n) f te σ H Q
theorem S_tryF {xf : Nat → Nat → Option Bool} {xfl : Nat → Option Nat} {b : List Stmt} {g : Env → St → RS} {x y z fn : Str} {i j gf n : Nat} {np p1 p2 p3 p4 pos pos' : Pos} (G : GoodS c N X sc k) (gs : GlobS c X.prog X.w X.K X.mg X.base xf xfl) (tk : Takes X Wx) (hg : Gl X x) (hdb : (x == ("__debug__" : Str)) = false) (hx : X.mg x = some (.ref (c.A n)))
    (hb : ∀ (W : WX) (pn : List (Addr × Obj)) (xe : Value → Shared → Prop), Takes (X.tr pn xe) W → PassesOwn (model X.prog X.w) X.A X.env xe → PSs (X.tr pn xe) b (tS c W g))
    (hl : locB sc z = true) (hi : nameAt N i z = true) (hly : kindIs sc y .local = true) (hpy : plainN y = true) (hj : nameAt N j y = true) (hf : c.nm.fld[gf]? = some fn) :
    PS X (.Try b [.ExceptHandler (some (.Name x np)) (some y) [.Assign [.Name z p1] (.Attribute (.Name y p2) fn p3) p4] pos'] [] [] pos) (tS c Wx fun e s => (match g e s with
      | .exc c' l e2 s2 => (match xf c' n with
        | some true => hdl xfl (.fld i j gf) c' l e2 s2
        | some false => .exc c' l e2 s2
        | none => .bad)
      | r => r)) := by
  obtain ⟨l1, l2⟩ := G.loc z hl
  have hv : Vis X.env.scope y := G.vis y (by unfold visB; rw [hly]; rfl)
  simp only [plainN, Bool.and_eq_true, Bool.not_eq_true'] at hpy
  refine PS.weak (ps_try_as (i := j) (ts := fun a cls d => tAsg (tXfs c a cls d fn (tVar j)) (gName i)) G.stk G.frm (by rw [G.hN]; exact G.nd) (by rw [G.hN]; exact nameAt_of hj) (G.kindOf hly) ⟨hg, hdb, .inl hx⟩ tk hb fun a oe cls d pn hz hd => ?_) fun D σ H q => ?_
  · refine pss_one (ps_set (X := X.suite a ((a, oe) :: pn)) (i := i) (by rw [G.hN]; exact G.nd) (by rw [G.hN]; exact nameAt_of hi) l1 ⟨fun pins s σ H Q I ⟨m, g1, e1, e2, q⟩ => ?_⟩ rfl l2)
    obtain ⟨f', e3, E⟩ := gs.ex1 m g1 e1
    rw [e2] at e3
    cases e3
    exact (pe_xf (X := X) E.xf E.hno hz hd (pe_var (X := X.suite a ((a, oe) :: pn)) (by rw [G.hN]; exact nameAt_of hj) hv hpy.1.1.1 hpy.1.1.2)).run pins s σ H Q I q
  · obtain ⟨ρ, st, env, r, re, q⟩ := q
    refine ⟨ρ, st, env, r, re, ?_⟩
    dsimp only at q
    revert q
    cases g env st with
    | nx e s => exact fun q => q
    | ret e s => exact fun q => q
    | brk e s => exact fun q => q
    | ct e s => exact fun q => q
    | bad => exact fun q => q
    | exc c' l e2 s2 =>
      intro q ρ' H' σ' cls d x' r' re' z
      dsimp only at q
      have ecls : cls = .ref (c.A c') := z.1
      subst ecls
      cases ex : xf c' n with
      | none => rw [ex] at q; exact q.elim
      | some t =>
        refine ⟨t, gs.xf c' n t ex, fun ht => ?_, fun ht => ?_⟩
        · subst ht
          rw [ex] at q
          intro a ha
          have ez := z.2
          rcases ez with ⟨rfl, rfl⟩ | ⟨w, v, dx, rfl, rfl, rw', f, ⟨g1, e1, e2'⟩, e3, e4⟩
          · have q : PostS c D Wx ρ H (hdl xfl (.fld i j gf) c' [] e2 s2) := q
            unfold hdl at q
            cases h : xfl c' <;> rw [h] at q <;> exact q.elim
          · have q2 : PostS c D Wx ρ H (hdl xfl (.fld i j gf) c' [w] e2 s2) := q
            have h5 := gs.xfl c'
            rw [e1] at h5
            unfold hdl at q2
            rw [h5] at q2
            dsimp only at q2
            by_cases hgf : g1 = gf ∧ j < e2.length
            · rw [if_pos hgf] at q2
              obtain ⟨rfl, hjl⟩ := hgf
              rw [hf] at e2'
              cases e2'
              rw [re'.1] at hjl
              exact ⟨c', g1, e1, hf, .ref a, List.getElem?_set_self hjl, rfl, rfl, dx, [(fn, v)], v, rfl, e3, by simp [List.lookup], q2 ρ' H' _ x' r' (re'.setF i j _ _ rw')⟩
            · rw [if_neg hgf] at q2; exact q2.elim
        · subst ht
          rw [ex] at q
          exact q ρ' H' σ' _ d x' r' re' z
theorem S_tryK {xf : Nat → Nat → Option Bool} {xfl : Nat → Option Nat} {b : List Stmt} {g : Env → St → RS} {x y z : Str} {i j n : Nat} {np p1 p2 p4 pos pos' : Pos} (G : GoodS c N X sc k) (gs : GlobS c X.prog X.w X.K X.mg X.base xf xfl) (tk : Takes X Wx) (hg : Gl X x) (hdb : (x == ("__debug__" : Str)) = false) (hx : X.mg x = some (.ref (c.A n)))
    (hb : ∀ (W : WX) (pn : List (Addr × Obj)) (xe : Value → Shared → Prop), Takes (X.tr pn xe) W → PassesOwn (model X.prog X.w) X.A X.env xe → PSs (X.tr pn xe) b (tS c W g))
    (hl : locB sc z = true) (hi : nameAt N i z = true) (hly : kindIs sc y .local = true) (hpy : plainN y = true) (hj : nameAt N j y = true) :
    PS X (.Try b [.ExceptHandler (some (.Name x np)) (some y) [.Assign [.Name z p1] (.Name y p2) p4] pos'] [] [] pos) (tS c Wx fun e s => (match g e s with
      | .exc c' l e2 s2 => (match xf c' n with
        | some true => hdl xfl (.keep i j) c' l e2 s2
        | some false => .exc c' l e2 s2
        | none => .bad)
      | r => r)) := by
  obtain ⟨l1, l2⟩ := G.loc z hl
  have hv : Vis X.env.scope y := G.vis y (by unfold visB; rw [hly]; rfl)
  simp only [plainN, Bool.and_eq_true, Bool.not_eq_true'] at hpy
  refine PS.weak (ps_keep (j := j) (i := i) G.stk G.frm G.ex0 (by rw [G.hN]; exact G.nd) (by rw [G.hN]; exact nameAt_of hj) (G.kindOf hly) hv hpy.1.1.1 hpy.1.1.2 (by rw [G.hN]; exact nameAt_of hi) l1 l2 ⟨hg, hdb, .inl hx⟩ tk hb) fun D σ H q => ?_
  obtain ⟨ρ, st, env, r, re, q⟩ := q
  refine ⟨ρ, st, env, r, re, ?_⟩
  dsimp only at q
  revert q
  cases g env st with
  | nx e s => exact fun q => q
  | ret e s => exact fun q => q
  | brk e s => exact fun q => q
  | ct e s => exact fun q => q
  | bad => exact fun q => q
  | exc c' l e2 s2 =>
    intro q ρ' H' σ' cls d x' r' re' z
    dsimp only at q
    have ecls : cls = .ref (c.A c') := z.1
    subst ecls
    cases ex : xf c' n with
    | none => rw [ex] at q; exact q.elim
    | some t =>
      refine ⟨t, gs.xf c' n t ex, fun ht => ?_, fun ht => ?_⟩
      · subst ht
        rw [ex] at q
        intro a ha
        have q2 : PostS c D Wx ρ H (if i < e2.length ∧ j < e2.length then RS.nx ((e2.set i (some (.exn c' l))).set j none) s2 else .bad) := q
        by_cases hlen : i < e2.length ∧ j < e2.length
        · rw [if_pos hlen] at q2
          have fr : Ext ρ' H' ρ' (upd H' a (exq a (.ref (c.A c')) d)) := Ext.fresh ha
          have rl : RelW c ρ' (upd H' a (exq a (.ref (c.A c')) d)) (.exn c' l) (.ref a) := by
            simp only [RelW]
            rcases z.2 with ⟨rfl, rfl⟩ | ⟨w, v, dx, rfl, rfl, rw', f, hgf, e3, e4⟩
            · exact ⟨a, none, [], rfl, upd_same, r'.out ha, .inl ⟨rfl, rfl⟩, by simp only [RelL]⟩
            · refine ⟨a, some dx, [v], rfl, upd_same, r'.out ha, .inr ⟨v, dx, f, rfl, rfl, hgf, ?_, e4⟩, RelL.cons (rw'.ext fr) RelL.nil⟩
              rw [upd_ne (ne_of_none e3 ha)]; exact e3
          exact q2 ρ' _ _ (x'.trans fr) (r'.fresh ha) ((re'.ext fr).setF i j _ _ rl)
        · rw [if_neg hlen] at q2; exact q2.elim
      · subst ht
        rw [ex] at q
        exact q ρ' H' σ' _ d x' r' re' z
variable {cl : Nat → List W → St → R W} {mkc : Nat → Nat → List W → St → R W} {mt : Nat → Nat → Option Nat} {xf : Nat → Nat → Option Bool} {xfl : Nat → Option Nat}
theorem SS_all {f : Stmt → S → Bool} (ih : ∀ s cs, f s cs = true → PS X s (tS c Wx (evS cl mkc mt xf xfl cs))) : ∀ {ss : List Stmt} {cs : Ss}, ssB f ss cs = true → PSs X ss (tS c Wx (evSs cl mkc mt xf xfl cs))
  | [], .nil, _ => by
    have e : evSs cl mkc mt xf xfl .nil = fun e s => .nx e s := by funext e s; simp only [evSs]
    rw [e]; exact SS_nil
  | s :: ss, .cons d ds, h => by
    simp only [ssB, Bool.and_eq_true] at h
    have e : evSs cl mkc mt xf xfl (.cons d ds) = fun e s => (match evS cl mkc mt xf xfl d e s with
      | .nx e2 s2 => evSs cl mkc mt xf xfl ds e2 s2
      | q => q) := by funext e s; simp only [evSs] <;> rfl
    rw [e]; exact SS_cons (ih s d h.1) (SS_all ih h.2)
  | [], .cons _ _, h => by cases h
  | _ :: _, .nil, h => by cases h
/-- THE STATEMENTS -/
theorem sndS : ∀ (n : Nat) {X : Cx} {Wx : WX} {s : Stmt} {cs : S}, GoodS c N X sc k → Takes X Wx → Glob c X.prog X.w X.K X.mg X.base cl mkc k → GlobS c X.prog X.w X.K X.mg X.base xf xfl → chkS c.nm N sc n s cs = true → PS X s (tS c Wx (evS cl mkc mt xf xfl cs)) := by
  intro n
  induction n with
  | zero => intro X Wx s cs G tk gb gs h; simp only [chkS] at h; cases h
  | succ n ih =>
    intro X Wx s cs G tk gb gs h
    have ih' := fun s cs (h : chkS c.nm N sc n s cs = true) => ih (Wx := Wx) G tk gb gs h
    have ex := fun e ce (h : chkE c.nm N n sc e ce = true) => sndE (cl := cl) (mkc := mkc) (mt := mt) n (Wx := Wx) G.toGood tk gb h
    have h : chkS1 c.nm N (chkE c.nm N n) (chkS c.nm N sc n) sc s cs = true := h
    unfold chkS1 at h
    split at h
    case h_1 x px e pos i d _ =>
      simp only [Bool.and_eq_true] at h
      obtain ⟨⟨⟨h1, h2⟩, h3⟩, h4⟩ := h
      unfold asgB at h4
      split at h4
      · rename_i elt t it ifs scope p
        cases n with
        | zero => simp only [chkE] at h3; cases h3
        | succ n =>
          have h3 : chkE1 c.nm N (chkE c.nm N n) sc (.ListComp elt [⟨t, it, ifs, 0⟩] scope p) d = true := h3
          unfold chkE1 at h3
          split at h3
          case h_21 elt' tg' iter' ifs' scope' pos' fz tt itt d el q _ =>
            cases q
            have z := S_setLc (fz := fz) (pos := p) (spos := pos) (py := px) (y := x) (i := i) G.toGood h1 h2 (lc_ok (cl := cl) (mkc := mkc) (mt := mt) G.toGood tk gb (fun G tk gb h => sndE n G tk gb h) h3)
            have e : evS cl mkc mt xf xfl (.set i (.lc fz tt itt d el)) = fun e s => RS.of e ((evIt cl mkc mt itt e s).bind fun wk s => (lcL wk.chk tt (evE cl mkc mt d) (evE cl mkc mt el) e wk.items [] s).bind fun l s => newL fz l s) fun w s => .nx (e.set i (some w)) s := by funext e s; simp only [evS, evE]
            rw [e]; exact z
          all_goals first
            | (rename_i q _; cases q; done)
            | (rename_i q _ _; cases q; done)
            | (cases h3; done)
      · have z := S_set (pos := pos) (pos' := px) G.toGood h1 h2 (swaps_plain h4) (ex _ _ h3).pe
        have e : evS cl mkc mt xf xfl (.set i d) = fun e s => RS.of e (evE cl mkc mt d e s) fun w s => .nx (e.set i (some w)) s := by funext e s; simp only [evS]
        rw [e]; exact z
    case h_2 ts n1 p1 es n2 p2 pos is cs _ =>
      simp only [Bool.and_eq_true] at h
      obtain ⟨⟨h1, h2⟩, h3⟩ := h
      have e : evS cl mkc mt xf xfl (.par is cs) = fun e s => RS.ofL e (evEs cl mkc mt cs e s) fun ws s => nxO s (setMany is ws e) := by funext e s; simp only [evS]
      rw [e]
      have A := A_es (cl := cl) (mkc := mkc) (mt := mt) (Wx := Wx) (X := X) ex h3
      unfold parB at h2
      split at h2
      · rename_i x p y q a b
        simp only [Bool.and_eq_true, decide_eq_true_eq, Bool.not_eq_true'] at h2
        obtain ⟨⟨⟨⟨⟨g1, g2⟩, g3⟩, g4⟩, g5⟩, g6⟩ := h2
        match is, h1 with
        | [i, j], h1 =>
          simp only [tgB, Bool.and_eq_true] at h1
          exact S_par2 G.toGood G.kindF (G.kindOf g1) (G.kindOf g2) (nameAt_of h1.1.2) (nameAt_of h1.2.1.2) g3 (of_decide_eq_false g4) g5 g6 (star_es h3 _ (by simp)) (star_es h3 _ (by simp)) A
        | [], h1 => cases h1
        | [_], h1 => simp [tgB] at h1
        | _ :: _ :: _ :: _, h1 => simp [tgB] at h1
      · rename_i x p y q z r a b d
        simp only [Bool.and_eq_true, decide_eq_true_eq, Bool.not_eq_true'] at h2
        obtain ⟨⟨⟨⟨⟨⟨⟨⟨⟨g1, g2⟩, g2'⟩, g3⟩, g3'⟩, g4⟩, g4'⟩, g4''⟩, g5⟩, g6⟩ := h2
        match is, h1 with
        | [i, j, l], h1 =>
          simp only [tgB, Bool.and_eq_true] at h1
          exact S_par3 G.toGood G.kindF (G.kindOf g1) (G.kindOf g2) (G.kindOf g2') (nameAt_of h1.1.2) (nameAt_of h1.2.1.2) (nameAt_of h1.2.2.1.2) g3 g3' (of_decide_eq_false g4) (of_decide_eq_false g4') (of_decide_eq_false g4'') g5 g6 (star_es h3 _ (by simp)) (star_es h3 _ (by simp)) (star_es h3 _ (by simp)) A
        | [], h1 => cases h1
        | [_], h1 => simp [tgB] at h1
        | [_, _], h1 => simp [tgB] at h1
        | _ :: _ :: _ :: _ :: _, h1 => simp [tgB] at h1
      · cases h2
    case h_3 ts n1 p1 e0 pos is d _ =>
      simp only [Bool.and_eq_true] at h
      have e : evS cl mkc mt xf xfl (.setT is d) = fun e s => RS.of e (evE cl mkc mt d e s) fun w s => (match listOf s w with
        | some l => nxO s (setMany is l e)
        | none => .bad) := by funext e s; simp only [evS] <;> rfl
      rw [e]
      exact S_setT G.toGood h.1.1 h.1.2 (ex _ _ h.2).pe
    case h_4 a pos d _ =>
      simp only [Bool.and_eq_true] at h
      have e : evS cl mkc mt xf xfl (.ex d) = fun e s => RS.of e (evE cl mkc mt d e s) fun _ s => .nx e s := by funext e s; simp only [evS]
      rw [e]
      exact S_ex h.1 (ex _ _ h.2).pe
    case h_5 a pos d _ =>
      have e : evS cl mkc mt xf xfl (.ret d) = fun e s => RS.of e (evE cl mkc mt d e s) fun w s => .ret w s := by funext e s; simp only [evS]
      rw [e]
      exact S_ret (ex _ _ h).pe
    case h_6 =>
      have e : evS cl mkc mt xf xfl (.ret (.k .non)) = fun e s => RS.of e (.ok .non s) fun w s => .ret w s := by funext e s; simp only [evS, evE]
      rw [e]
      exact S_retN
    case h_7 t a b pos d x y _ =>
      simp only [Bool.and_eq_true] at h
      have e : evS cl mkc mt xf xfl (.ite d x y) = fun e s => RS.of e (evE cl mkc mt d e s) fun w s => (match truth s w with
        | some true => evSs cl mkc mt xf xfl x e s
        | some false => evSs cl mkc mt xf xfl y e s
        | none => .bad) := by funext e s; simp only [evS] <;> rfl
      rw [e]
      exact S_ite (ex _ _ h.1.1).pt (SS_all ih' h.1.2) (SS_all ih' h.2)
    case h_8 t b pos d x _ =>
      simp only [Bool.and_eq_true] at h
      have e : evS cl mkc mt xf xfl (.whl d x) = fun e s => (lp (fun (es : Env × St) => (match evE cl mkc mt d es.1 es.2 with
        | .ok w s2 => (match truth s2 w with
          | some true => (match evSs cl mkc mt xf xfl x es.1 s2 with
            | .nx e3 s3 => Sum.inl (e3, s3)
            | .ct e3 s3 => Sum.inl (e3, s3)
            | .brk e3 s3 => Sum.inr (.nx e3 s3)
            | r => Sum.inr r)
          | some false => Sum.inr (.nx es.1 s2)
          | none => Sum.inr .bad)
        | .exc c l s2 => Sum.inr (.exc c l es.1 s2)
        | .bad => Sum.inr .bad)) (e, s)).getD .bad := by funext e s; simp only [evS] <;> rfl
      rw [e]
      exact S_whl G.own (ex _ _ h.1).pt (SS_all ih' h.2)
    case h_9 tg it b pos t i x _ =>
      simp only [Bool.and_eq_true] at h
      obtain ⟨⟨h1, h2⟩, h3⟩ := h
      have e : evS cl mkc mt xf xfl (.for_ t i x) = fun e s => RS.ofW e (evIt cl mkc mt i e s) fun wk s => forL wk.chk t (evSs cl mkc mt xf xfl x) wk.items e s := by funext e s; simp only [evS]
      rw [e]
      obtain ⟨q1, q2⟩ := itB_I (tg := tg) (Wx := Wx) G.toGood gb ex h1
      exact S_for G.toGood G.own q1 q2 h2 (SS_all ih' h3)
    case h_10 =>
      have e : evS cl mkc mt xf xfl .brk = fun e s => .brk e s := by funext e s; simp only [evS]
      rw [e]; exact S_brk
    case h_11 =>
      have e : evS cl mkc mt xf xfl .cont = fun e s => .ct e s := by funext e s; simp only [evS]
      rw [e]; exact S_ct
    case h_12 =>
      have e : evS cl mkc mt xf xfl .pass = fun e s => .nx e s := by funext e s; simp only [evS]
      rw [e]; exact S_pass
    case h_13 x p a p2 pos n1 d _ =>
      simp only [Bool.and_eq_true, decide_eq_true_eq] at h
      obtain ⟨⟨⟨⟨⟨h1, h2⟩, h3⟩, h4⟩, h5⟩, h6⟩ := h
      obtain ⟨g1, e1⟩ := Option.isSome_iff_exists.mp h6
      obtain ⟨f, e2, E⟩ := gs.ex1 _ _ e1
      have e : evS cl mkc mt xf xfl (.rse n1 (.cons d .nil)) = fun e s => RS.ofL e ((evE cl mkc mt d e s).bind fun w s => .ok [w] s) fun ws s => .exc n1 ws e s := by
        funext e s; simp only [evS, evEs, R.bind_ok]
      rw [e]
      exact S_rse1 G.toGood G.k2 tk e1 e2 E (gs.cls _ _ h3) (G.gl _ h1) (plain_parts h2).1 h4 (ex _ _ h5).pe
    case h_14 x p es p2 pos n1 cs _ _ =>
      simp only [Bool.and_eq_true, decide_eq_true_eq] at h
      obtain ⟨⟨⟨⟨⟨h1, h2⟩, h3⟩, h4⟩, h5⟩, h6⟩ := h
      have : es = [] := List.length_eq_zero_iff.mp h5
      subst this
      cases cs with
      | cons _ _ => cases h4
      | nil =>
        have e : evS cl mkc mt xf xfl (.rse n1 .nil) = fun e s => RS.ofL e (R.ok [] s) fun ws s => .exc n1 ws e s := by funext e s; simp only [evS, evEs]
        rw [e]
        exact S_rse0 G.toGood tk (gs.ex0 _ h6) (gs.cls _ _ h3) (G.gl _ h1) (plain_parts h2).1
    case h_15 b x np y hs pos' pos b' n1 hd _ =>
      simp only [Bool.and_eq_true, decide_eq_true_eq] at h
      obtain ⟨⟨⟨⟨h1, h2⟩, h3⟩, h4⟩, h5⟩ := h
      unfold hdB at h5
      split at h5
      · rename_i y' q1 c0 j0 q2 q3 i w
        simp only [Bool.and_eq_true] at h5
        have e : evS cl mkc mt xf xfl (.try_ b' n1 (.set i w)) = fun e s => (match evSs cl mkc mt xf xfl b' e s with
          | .exc c' l e2 s2 => (match xf c' n1 with
            | some true => .nx (e2.set i (some w)) s2
            | some false => .exc c' l e2 s2
            | none => .bad)
          | r => r) := by funext e s; simp only [evS, hdl] <;> rfl
        rw [e]
        exact S_try G gs tk (G.gl _ h1) (plain_parts h2).1 (gs.cls _ _ h3) (fun W pn xe tk' ow => SS_all (fun s cs h => ih (X := X.tr pn xe) (Wx := W) (G.tr ow) tk' gb gs h) h4) h5.1.1 h5.1.2 h5.2
      · rename_i y1 z q1 y2 q2 fn q3 q4 i j gf
        simp only [Bool.and_eq_true, decide_eq_true_eq] at h5
        obtain ⟨⟨⟨⟨⟨⟨g1, g2⟩, g3⟩, g4⟩, g5⟩, g6⟩, g7⟩ := h5
        subst g6
        have e : evS cl mkc mt xf xfl (.try_ b' n1 (.fld i j gf)) = fun e s => (match evSs cl mkc mt xf xfl b' e s with
          | .exc c' l e2 s2 => (match xf c' n1 with
            | some true => hdl xfl (.fld i j gf) c' l e2 s2
            | some false => .exc c' l e2 s2
            | none => .bad)
          | r => r) := by funext e s; simp only [evS] <;> rfl
        rw [e]
        exact S_tryF G gs tk (G.gl _ h1) (plain_parts h2).1 (gs.cls _ _ h3) (fun W pn xe tk' ow => SS_all (fun s cs h => ih (X := X.tr pn xe) (Wx := W) (G.tr ow) tk' gb gs h) h4) g1 g2 g3 g4 g5 g7
      · rename_i y1 z q1 y2 q2 q4 i j
        simp only [Bool.and_eq_true, decide_eq_true_eq] at h5
        obtain ⟨⟨⟨⟨⟨g1, g2⟩, g3⟩, g4⟩, g5⟩, g6⟩ := h5
        subst g6
        have e : evS cl mkc mt xf xfl (.try_ b' n1 (.keep i j)) = fun e s => (match evSs cl mkc mt xf xfl b' e s with
          | .exc c' l e2 s2 => (match xf c' n1 with
            | some true => hdl xfl (.keep i j) c' l e2 s2
            | some false => .exc c' l e2 s2
            | none => .bad)
          | r => r) := by funext e s; simp only [evS] <;> rfl
        rw [e]
        exact S_tryK G gs tk (G.gl _ h1) (plain_parts h2).1 (gs.cls _ _ h3) (fun W pn xe tk' ow => SS_all (fun s cs h => ih (X := X.tr pn xe) (Wx := W) (G.tr ow) tk' gb gs h) h4) g1 g2 g3 g4 g5
      · cases h5
    case h_16 o i p2 e pos co ci d _ =>
      simp only [Bool.and_eq_true] at h
      obtain ⟨⟨⟨⟨h1, h2⟩, h3⟩, h4⟩, h5⟩ := h
      have eq : evS cl mkc mt xf xfl (.setI co ci d) = fun env s => RS.of env (evE cl mkc mt d env s) fun w s => RS.of env (evE cl mkc mt co env s) fun x s => RS.of env (evE cl mkc mt ci env s) fun y s => (match setIW s x y w with
        | some s' => .nx env s'
        | none => .bad) := by funext env s; simp only [evS] <;> rfl
      rw [eq]
      haveI := G.pw
      exact S_setI G.room.units G.hK h1 h2 (ex _ _ h3).pe (ex _ _ h4).pe (ex _ _ h5).pe
    case h_17 y q fn p2 e pos co g d _ =>
      simp only [Bool.and_eq_true, decide_eq_true_eq] at h
      obtain ⟨⟨⟨h1, h2⟩, h3⟩, h4⟩ := h
      have eq : evS cl mkc mt xf xfl (.setF co g d) = fun env s => RS.of env (evE cl mkc mt d env s) fun w s => RS.of env (evE cl mkc mt co env s) fun x s => (match setFW s x g w with
        | some s' => .nx env s'
        | none => .bad) := by funext env s; simp only [evS] <;> rfl
      rw [eq]
      exact S_setF gb.gx h1 h4 (ex _ _ h2).pe (ex _ _ h3).pe
    case h_18 => cases h
end
end Px

set_option linter.all false
set_option maxRecDepth 100000
/-! Px11: defs, the table of them, what the top leaves. -/
namespace Px
open PySem PySem.Spec PyProof.Rows L2

/-! ### what a pure def gives back is frozen -/
section
variable {c : Cfg} {ρ ρ' : Rho} {H H' : Hp}
mutual
theorem RelW.back (pre : ρ.l <+: ρ'.l) (hid : ρ'.hid = ρ.hid) {G : Hp} : ∀ {w : W} {v0 v : V}, RelW c ρ G w v0 → RelW c ρ' H' w v → RelW c ρ H' w v
  | .non, _, _, _, h => h
  | .bl _, _, _, _, h => h
  | .int _, _, _, _, h => h
  | .str _, _, _, _, h => h
  | .tup l, _, _, h0, h => by
    simp only [RelW] at h0 h ⊢
    obtain ⟨_, _, _, _, r0⟩ := h0
    obtain ⟨a, xs, e, t, r⟩ := h
    refine ⟨a, xs, e, ?_, RelL.back pre hid r0 r⟩
    rcases t with ⟨t, n⟩ | t
    · exact .inl ⟨t, fun m => n (m.elim (fun z => .inl (pre.subset z)) fun z => .inr (by rw [hid]; exact z))⟩
    · exact .inr t
  | .lst l, _, _, h0, h => by
    simp only [RelW] at h0 h ⊢
    obtain ⟨_, _, _, _, r0⟩ := h0
    obtain ⟨a, xs, e, t, r⟩ := h
    refine ⟨a, xs, e, ?_, RelL.back pre hid r0 r⟩
    rcases t with ⟨t, n⟩ | t
    · exact .inl ⟨t, fun m => n (m.elim (fun z => .inl (pre.subset z)) fun z => .inr (by rw [hid]; exact z))⟩
    · exact .inr t
  | .dct _ _, _, _, _, h => by simp only [RelW] at h
  | .ref n, _, _, h0, h => by
    simp only [RelW] at h0 h ⊢
    obtain ⟨b, e0, _⟩ := h0
    obtain ⟨a, e, rfl⟩ := h
    obtain ⟨r, er⟩ := pre
    rw [← er, List.getElem?_append_left (by exact (List.getElem?_eq_some_iff.mp e0).1)] at e
    exact ⟨a, e, rfl⟩
  | .exn k l, _, _, h0, h => by
    simp only [RelW] at h0 h ⊢
    obtain ⟨_, _, _, _, _, _, _, r0⟩ := h0
    obtain ⟨a, d, xs, e, h1, h2, h3, r⟩ := h
    have out : ∀ {b : Addr}, ¬ ρ'.has b → ¬ ρ.has b := fun {b} n m => n (m.elim (fun z => .inl (pre.subset z)) fun z => .inr (by rw [hid]; exact z))
    refine ⟨a, d, xs, e, h1, out h2, ?_, RelL.back pre hid r0 r⟩
    rcases h3 with h3 | ⟨y, dx, f, e1, e2, e3, e4, e5⟩
    · exact .inl h3
    · exact .inr ⟨y, dx, f, e1, e2, e3, e4, out e5⟩
theorem RelL.back (pre : ρ.l <+: ρ'.l) (hid : ρ'.hid = ρ.hid) {G : Hp} : ∀ {w : List W} {v0 v : List V}, RelL c ρ G w v0 → RelL c ρ' H' w v → RelL c ρ H' w v
  | [], _, _, _, h => h
  | w :: ws, _, _, h0, h => by
    simp only [RelL] at h0 h ⊢
    obtain ⟨_, _, _, r0, rs0⟩ := h0
    obtain ⟨y, ys, e, r, rs⟩ := h
    exact ⟨y, ys, e, RelW.back pre hid r0 r, RelL.back pre hid rs0 rs⟩
end
theorem RelF.back (pre : ρ.l <+: ρ'.l) (hid : ρ'.hid = ρ.hid) {G : Hp} : ∀ {fs : List (Nat × W)} {g0 g : List (Str × V)}, RelF c ρ G fs g0 → RelF c ρ' H' fs g → RelF c ρ H' fs g
  | [], _, _, _, h => by cases h; exact .nil
  | f :: fs, _, _, h0, h => by
    cases h with
    | cons h1 h2 =>
      cases h0 with
      | cons k1 k2 => exact .cons ⟨h1.1, RelW.back pre hid k1.2 h1.2⟩ (RelF.back pre hid k2 h2)
theorem RelG.back {κ : Type} {ky : W → Option κ} (pre : ρ.l <+: ρ'.l) (hid : ρ'.hid = ρ.hid) {G : Hp} : ∀ {fs : List (W × W)} {gs gs0 : List (κ × V)}, RelG c ρ G ky fs gs0 → RelG c ρ' H' ky fs gs → RelG c ρ H' ky fs gs
  | [], _, _, _, h => by cases h; exact .nil
  | f :: fs, _, _, h0, h => by
    cases h with
    | cons h1 h2 =>
      cases h0 with
      | cons k1 k2 => exact .cons ⟨h1.1, RelW.back pre hid k1.2 h1.2⟩ (RelG.back pre hid k2 h2)
theorem TupAt.back (pre : ρ.l <+: ρ'.l) (hid : ρ'.hid = ρ.hid) {a : Addr} {xs : List V} (h : TupAt c ρ' H' a xs) : TupAt c ρ H' a xs := by
  rcases h with ⟨t, n⟩ | t
  · exact .inl ⟨t, fun m => n (m.elim (fun z => .inl (pre.subset z)) fun z => .inr (by rw [hid]; exact z))⟩
  · exact .inr t
theorem RelT.back (pre : ρ.l <+: ρ'.l) (hid : ρ'.hid = ρ.hid) {G : Hp} : ∀ {fs : List (W × W)} {gs gs0 : List (List L2.Key × Addr × Value)}, RelT c ρ G fs gs0 → RelT c ρ' H' fs gs → RelT c ρ H' fs gs
  | [], _, _, _, h => by cases h; exact .nil
  | f :: fs, _, _, h0, h => by
    cases h with
    | cons h1 h2 =>
      cases h0 with
      | cons k1 k2 =>
        obtain ⟨_, _, v0, r0, _⟩ := k1
        obtain ⟨e1, e2, v, r, q⟩ := h1
        exact .cons ⟨e1, TupAt.back pre hid e2, v, RelW.back pre hid r0 r, q⟩ (RelT.back pre hid k2 h2)
theorem ObjAt.back (pre : ρ.l <+: ρ'.l) (hid : ρ'.hid = ρ.hid) {G : Hp} {a : Addr} {o : O} (h0 : ObjAt c ρ G a o) (h : ObjAt c ρ' H' a o) : ObjAt c ρ H' a o := by
  cases o with
  | lst ws =>
    obtain ⟨_, _, r0⟩ := h0
    obtain ⟨xs, e, r⟩ := h
    exact ⟨xs, e, r0.back pre hid r⟩
  | dict t l =>
    cases t with
    | false =>
      obtain ⟨_, _, r0⟩ := h0
      obtain ⟨kvs, e, r⟩ := h
      exact ⟨kvs, e, RelG.back pre hid r0 r⟩
    | true =>
      obtain ⟨_, _, _, _, _, r0⟩ := h0
      obtain ⟨xs, e, hl, hs, hn, r⟩ := h
      exact ⟨xs, e, hl, hs, hn, RelT.back pre hid r0 r⟩
  | ins k fs =>
    obtain ⟨_, _, _, _, r0⟩ := h0
    obtain ⟨hk, dx, gs, e, r⟩ := h
    exact ⟨hk, dx, gs, e, RelF.back pre hid r0 r⟩
theorem Rel.back {st s2 : St} (r : Rel c ρ H st) (x : Ext ρ H ρ' H') (r2 : Rel c ρ' H' s2) (e : s2.take st.length = st) : Ext ρ H ρ H' ∧ Rel c ρ H' st := by
  refine ⟨⟨List.prefix_refl _, rfl, x.keep, fun a m => .inl m⟩, r.len, r.nd, fun i o a e1 e2 => ?_, fun a m => ?_⟩
  · have hi : i < st.length := (List.getElem?_eq_some_iff.mp e1).1
    have e3 : s2[i]? = some o := by
      rw [← e, List.getElem?_take_of_lt hi] at e1
      exact e1
    exact (r.at_ i o a e1 e2).back x.pre x.hid (r2.at_ i o a e3 (x.get e2))
  · obtain ⟨n, q⟩ := r2.hd a (by rw [x.hid]; exact m)
    exact ⟨fun z => n (x.pre.subset z), q⟩
/-- what is frozen stands for a value by the addresses of the start -/
def FrzOk (c : Cfg) (ρ ρ' : Rho) (H' : Hp) (ob : Nat → Option W) : Prop := ∀ j w' a, ob j = some w' → ρ'.l[j]? = some a → RelW c ρ H' w' (.ref a)
mutual
theorem RelW.frz (pre : ρ.l <+: ρ'.l) (hid : ρ'.hid = ρ.hid) {ob : Nat → Option W} (hob : FrzOk c ρ ρ' H' ob) : ∀ {w w' : W} {v : V}, frz ob w = some w' → RelW c ρ' H' w v → RelW c ρ H' w' v
  | .non, _, _, e, h => by simp only [Px.frz] at e; cases e; exact h
  | .bl _, _, _, e, h => by simp only [Px.frz] at e; cases e; exact h
  | .int _, _, _, e, h => by simp only [Px.frz] at e; cases e; exact h
  | .str _, _, _, e, h => by simp only [Px.frz] at e; cases e; exact h
  | .tup l, _, _, e, h => by
    simp only [Px.frz] at e
    cases e1 : frzL ob l with
    | none => rw [e1] at e; cases e
    | some l' =>
      rw [e1] at e
      cases e
      simp only [RelW] at h ⊢
      obtain ⟨a, xs, e, t, r⟩ := h
      refine ⟨a, xs, e, ?_, RelL.frz pre hid hob e1 r⟩
      rcases t with ⟨t, n⟩ | t
      · exact .inl ⟨t, fun m => n (m.elim (fun z => .inl (pre.subset z)) fun z => .inr (by rw [hid]; exact z))⟩
      · exact .inr t
  | .lst l, _, _, e, h => by
    simp only [Px.frz] at e
    cases e1 : frzL ob l with
    | none => rw [e1] at e; cases e
    | some l' =>
      rw [e1] at e
      cases e
      simp only [RelW] at h ⊢
      obtain ⟨a, xs, e, t, r⟩ := h
      refine ⟨a, xs, e, ?_, RelL.frz pre hid hob e1 r⟩
      rcases t with ⟨t, n⟩ | t
      · exact .inl ⟨t, fun m => n (m.elim (fun z => .inl (pre.subset z)) fun z => .inr (by rw [hid]; exact z))⟩
      · exact .inr t
  | .dct _ _, _, _, _, h => by simp only [RelW] at h
  | .ref n, _, _, e, h => by
    simp only [Px.frz] at e
    simp only [RelW] at h
    obtain ⟨a, e2, rfl⟩ := h
    exact hob n _ a e e2
  | .exn k l, _, _, e, h => by
    simp only [Px.frz] at e
    cases e1 : frzL ob l with
    | none => rw [e1] at e; cases e
    | some l' =>
      rw [e1] at e
      cases e
      simp only [RelW] at h ⊢
      obtain ⟨a, d, xs, e, h1, h2, h3, r⟩ := h
      have out : ∀ {b : Addr}, ¬ ρ'.has b → ¬ ρ.has b := fun {b} n m => n (m.elim (fun z => .inl (pre.subset z)) fun z => .inr (by rw [hid]; exact z))
      refine ⟨a, d, xs, e, h1, out h2, ?_, RelL.frz pre hid hob e1 r⟩
      rcases h3 with h3 | ⟨y, dx, f, e1, e2, e3, e4, e5⟩
      · exact .inl h3
      · exact .inr ⟨y, dx, f, e1, e2, e3, e4, out e5⟩
theorem RelL.frz (pre : ρ.l <+: ρ'.l) (hid : ρ'.hid = ρ.hid) {ob : Nat → Option W} (hob : FrzOk c ρ ρ' H' ob) : ∀ {w w' : List W} {v : List V}, frzL ob w = some w' → RelL c ρ' H' w v → RelL c ρ H' w' v
  | [], _, _, e, h => by simp only [Px.frzL] at e; cases e; exact h
  | w :: ws, _, _, e, h => by
    simp only [Px.frzL] at e
    cases e1 : Px.frz ob w with
    | none => rw [e1] at e; cases e
    | some y =>
      cases e2 : frzL ob ws with
      | none => rw [e1, e2] at e; cases e
      | some ys =>
        rw [e1, e2] at e
        cases e
        simp only [RelL] at h ⊢
        obtain ⟨z, zs, e, r, rs⟩ := h
        exact ⟨z, zs, e, RelW.frz pre hid hob e1 r, RelL.frz pre hid hob e2 rs⟩
end
theorem frz_obj {st : St} (pre : ρ.l <+: ρ'.l) (hid : ρ'.hid = ρ.hid) (r : Rel c ρ' H' st) : ∀ d, FrzOk c ρ ρ' H' (obj st ρ.l.length d) := by
  have low : ∀ {j : Nat} {a : Addr}, j < ρ.l.length → ρ'.l[j]? = some a → RelW c ρ H' (.ref j) (.ref a) := fun {j a} hj e => by
    obtain ⟨z, er⟩ := pre
    rw [← er, List.getElem?_append_left hj] at e
    simp only [RelW]
    exact ⟨a, e, rfl⟩
  intro d
  induction d with
  | zero =>
    intro j w' a e e2
    unfold obj at e
    split at e
    · rename_i hj
      cases e
      exact low hj e2
    · cases e
  | succ d ih =>
    intro j w' a e e2
    unfold obj at e
    split at e
    · rename_i hj
      cases e
      exact low hj e2
    · rename_i hj
      split at e
      · rename_i l e3
        cases e4 : frzL (obj st ρ.l.length d) l with
        | none => rw [e4] at e; cases e
        | some l' =>
          rw [e4] at e
          cases e
          obtain ⟨xs, e5, rs⟩ := r.at_ j _ a e3 e2
          have n : ¬ ρ.has a := fun m => by
            rcases m with m | m
            · obtain ⟨i, hi, e6⟩ := List.getElem_of_mem m
              have e7 : ρ.l[i]? = some a := by rw [List.getElem?_eq_getElem hi, e6]
              have e8 : ρ'.l[i]? = some a := by
                obtain ⟨z, er⟩ := pre
                rw [← er, List.getElem?_append_left hi]; exact e7
              have := (List.getElem?_inj (List.getElem?_eq_some_iff.mp e2).1 r.nd).mp (e2.trans e8.symm)
              omega
            · exact (r.hd a (by rw [hid]; exact m)).1 (List.mem_of_getElem? e2)
          simp only [RelW]
          exact ⟨a, xs, rfl, .inl ⟨.inl e5, n⟩, RelL.frz pre hid ih e4 rs⟩
      · cases e
theorem RelX.back {k : Nat} {l : List W} {cls : Value} {d : Option Addr} (pre : ρ.l <+: ρ'.l) (hid : ρ'.hid = ρ.hid) (e : frzL (fun _ => none) l = some l) (h : RelX c ρ' H' k l cls d) : RelX c ρ H' k l cls d := by
  refine ⟨h.1, h.2.imp id fun ⟨w, v, dx, e1, e2, r, f, hg, hf, n⟩ => ?_⟩
  subst e1
  have r' : RelL c ρ' H' [w] [v] := RelL.cons r RelL.nil
  have r2 := RelL.frz pre hid (fun j w' a z => by cases z) e r'
  simp only [RelL] at r2
  obtain ⟨y, ys, q1, q2, q3⟩ := r2
  cases q1
  exact ⟨w, v, dx, rfl, e2, q2, f, hg, hf, fun m => n (m.elim (fun z => .inl (pre.subset z)) fun z => .inr (by rw [hid]; exact z))⟩
theorem fin_ok {m : Mode} {st : St} {r : RS} {Q : VK} {E : XK} (r0 : Rel c ρ H st) (h : Post c E ρ H (fin m st r) (QV c Q)) : PostS c { nx := fun _ H' => Q .non H', rt := Q } (fun cls d _ H => E cls d H) ρ H r := by
  unfold fin at h
  cases m with
  | raw =>
    cases r with
    | nx e s => exact fun ρ' H' σ' x r _ => h ρ' H' x r .non (by simp only [RelW])
    | ret w s => exact fun ρ' H' v x r rv => h ρ' H' x r v rv
    | brk e s => exact h.elim
    | ct e s => exact h.elim
    | exc k l e s => exact fun ρ' H' σ' cls d x r _ z => h ρ' H' cls d x r z
    | bad => exact h
  | pure =>
    cases r with
    | nx e s =>
      dsimp only at h
      split at h
      · rename_i et
        intro ρ' H' σ' x r _
        obtain ⟨x2, r2⟩ := r0.back x r et
        exact h ρ H' x2 r2 .non (by simp only [RelW])
      · exact h.elim
    | ret w s =>
      dsimp only at h
      split at h
      · rename_i et
        split at h
        · rename_i w' ef
          intro ρ' H' v x r rv
          obtain ⟨x2, r2⟩ := r0.back x r et
          refine h ρ H' x2 r2 v ?_
          unfold freeze at ef
          rw [← r0.len] at ef
          exact RelW.frz x.pre x.hid (frz_obj x.pre x.hid r 4) ef rv
        · exact h.elim
      · exact h.elim
    | brk e s => exact h.elim
    | ct e s => exact h.elim
    | exc k l e s =>
      dsimp only at h
      split at h
      · rename_i et
        intro ρ' H' σ' cls d x r _ z
        obtain ⟨x2, r2⟩ := r0.back x r et.1
        exact h ρ H' cls d x2 r2 (z.back x.pre x.hid et.2)
      · exact h.elim
    | bad => exact h
end

/-! ### the table of the defs -/
/-- one def of the text: its name, its class, its text, its slots (parameters first), how many parameters -/
structure TD where
  nm : Str
  cls : Option Str
  st : Stmt
  N : List Str
  many : Nat
  /-- the defaults of its last parameters -/
  dfl : List W
def TD.at_ (d : TD) : Str × Option Str := match d.cls with
  | none => (d.nm, none)
  | some C => (C, some d.nm)
def TD.qual (d : TD) : Str := match d.cls with
  | none => d.nm
  | some C => C ++ "." ++ d.nm
def TD.ps (d : TD) : List Str := d.N.take d.many
def dvW : W → He.Dv
  | .bl b => .bl b
  | .int i => .int i
  | .str s => .str (sS s)
  | _ => .non
def simpleW : W → Bool
  | .non => true
  | .bl _ => true
  | .int _ => true
  | .str _ => true
  | _ => false
def TD.dd (d : TD) : He.DefD := ⟨d.at_, d.nm, d.qual, defArgs d.st, defBody d.st, defScope d.st, d.dfl.map dvW, []⟩
/-- how its arguments bind -/
def TD.Bnd0 (d : TD) : Prop := ∀ (kV doc pm : Value) (an : Option Addr) (cdv ct : Value) (us : List Value), us.length = d.ps.length → bindArgs (PySem.W.fnOf d.nm d.qual (defArgs d.st) (defBody d.st) (defScope d.st) .none kV doc pm an cdv ct) ⟨us, []⟩ = pure (d.ps.zip us)
/-- .. with defaults, of which the first j are not used -/
def TD.BndJ (d : TD) (j : Nat) : Prop := ∀ (T : Addr) (kV doc pm : Value) (an : Option Addr) (cdv ct : Value) (us its : List Value), us.length = d.ps.length - (d.dfl.length - j) → its.length = d.dfl.length →
  ∃ k, bindArgs (PySem.W.fnOf d.nm d.qual (defArgs d.st) (defBody d.st) (defScope d.st) (.ref T) kV doc pm an cdv ct) ⟨us, []⟩ = seqItems? (.ref T) >>= k ∧ k (some its.toArray) = pure (d.ps.zip (us ++ its.drop j))
def TD.Bnd (d : TD) : Prop := (d.dfl = [] → d.Bnd0) ∧ (d.dfl ≠ [] → ∀ j, j ≤ d.dfl.length → d.BndJ j)
/-- the whole table -/
structure Tab where
  T : List TD
  fns : List FnD
  cls : List Str
  con : List (Str × W)
  free : List Str
  ex0 : List Nat
  xt : List ((Nat × Nat) × Bool)
  fld : List Str
  /-- exceptions that keep what they are made with: the class, its field, its __init__ -/
  I : List (Nat × Nat × TD)
  ist : List ((Nat × Nat) × Bool)
  isv : List Nat
  /-- own classes: the class, its __init__; (class, method's name): the def -/
  own : List (Nat × Nat)
  mt : List ((Nat × Str) × Nat)
  ktup : Bool
  /-- dicts of the module whose keys are texts -/
  kd : List (Str × List (List Nat × W))
def Tab.exf (t : Tab) : List (Nat × Nat) := t.I.map fun p => (p.1, p.2.1)
def Tab.all (t : Tab) : List TD := t.T ++ t.I.map fun p => p.2.2
def Tab.nm (t : Tab) : Nm := ⟨t.T.map fun d => (match d.cls with
  | none => some d.nm
  | some _ => none), t.T.map fun d => d.dfl, t.cls, t.con, t.fld, t.free, t.ex0, t.exf, t.ist, t.isv, t.own, t.mt, t.ktup, t.kd⟩
def Tab.g (t : Tab) : Gd := ⟨t.fns, fun a b => t.xt.lookup (a, b), fun n => t.exf.lookup n⟩
/-- a def's text says what our def says -/
def defB (nm : Nm) (d : TD) (f : FnD) : Bool := C8.scC d.N d.ps (defScope d.st) && decide (f.many = d.many) && decide (f.slots = d.N.length) && decide (d.many ≤ d.N.length) && decide (d.dfl.length ≤ d.many) && d.dfl.all simpleW && ssB (chkS nm d.N (defScope d.st) 40) (defBody d.st) f.body
def pairB : (TD → FnD → Bool) → List TD → List FnD → Bool
  | _, [], [] => true
  | p, d :: ds, f :: fs => p d f && pairB p ds fs
  | _, _, _ => false
theorem pairB_at {p : TD → FnD → Bool} : ∀ {ds : List TD} {fs : List FnD}, pairB p ds fs = true → ∀ i : Nat, (∀ d, ds[i]? = some d → ∃ f, fs[i]? = some f ∧ p d f = true) ∧ (∀ f, fs[i]? = some f → ∃ d, ds[i]? = some d ∧ p d f = true)
  | [], [], _, i => ⟨fun d e => by simp at e, fun d e => by simp at e⟩
  | d :: ds, f :: fs, h, 0 => by
    simp only [pairB, Bool.and_eq_true] at h
    exact ⟨fun d e => by simp at e; subst e; exact ⟨f, rfl, h.1⟩, fun f e => by simp at e; subst e; exact ⟨d, rfl, h.1⟩⟩
  | d :: ds, f :: fs, h, i + 1 => by
    simp only [pairB, Bool.and_eq_true] at h
    exact ⟨fun x e => (pairB_at h.2 i).1 x (by simpa using e), fun x e => (pairB_at h.2 i).2 x (by simpa using e)⟩
  | [], _ :: _, h, _ => by cases h
  | _ :: _, [], h, _ => by cases h

/-! ### what the top leaves -/
mutual
def relK (kt : Bool) (K : PySem.W.Frag) : W → Value → Bool
  | .non, .none => true
  | .bl a, .bool b => a == b
  | .int a, .int b _ => decide (a = b)
  | .str s, .str y _ => decide (y.cps.toList = s)
  | .tup l, .ref a => (match K.lookup a with
    | some ⟨.type c, _, .seq its _, _⟩ => kt && decide (c = "tuple") && decide (its.size ≤ sizeLine) && relKs kt K l its.toList
    | _ => false)
  | .lst l, .ref a => (match K.lookup a with
    | some ⟨.type c, none, .seq its _, _⟩ => decide (c = "list") && decide (its.size ≤ sizeLine) && relKs kt K l its.toList
    | _ => false)
  | _, _ => false
def relKs (kt : Bool) (K : PySem.W.Frag) : List W → List Value → Bool
  | [], [] => true
  | w :: ws, u :: us => relK kt K w u && relKs kt K ws us
  | _, _ => false
end
section
variable {c : Cfg} {kt : Bool}
mutual
theorem relK_ok (hk : kt = true → c.nm.ktup = true) : ∀ {w : W} {u : Value}, relK kt c.K w u = true → ∃ v, RelV v u ∧ ∀ ρ H, RelW c ρ H w v
  | .non, u, h => by
    cases u with
    | none => exact ⟨.non, rfl, fun _ _ => by simp only [RelW]⟩
    | _ => simp [relK] at h
  | .bl b, u, h => by
    cases u with
    | bool b' => simp [relK] at h; subst h; exact ⟨.bl b, rfl, fun _ _ => by simp only [RelW]⟩
    | _ => simp [relK] at h
  | .int b, u, h => by
    cases u with
    | int b' t => simp [relK] at h; subst h; exact ⟨.int b, ⟨t, rfl⟩, fun _ _ => by simp only [RelW]⟩
    | _ => simp [relK] at h
  | .str s, u, h => by
    cases u with
    | str y t => simp only [relK, decide_eq_true_eq] at h; subst h; exact ⟨.str y, ⟨t, rfl⟩, fun _ _ => by simp only [RelW, sS_of]⟩
    | _ => simp [relK] at h
  | .tup l, u, h => by
    cases u with
    | ref a =>
      simp only [relK] at h
      split at h
      · rename_i c' od its n sl e
        simp only [Bool.and_eq_true, decide_eq_true_eq] at h
        obtain ⟨⟨⟨h0, h1⟩, h2⟩, h3⟩ := h
        subst h1
        obtain ⟨xs, r1, r2⟩ := relKs_ok hk h3
        refine ⟨.ref a, rfl, fun ρ H => ?_⟩
        simp only [RelW]
        exact ⟨a, xs, rfl, .inr ⟨hk h0, _, its, n, e, rfl, rfl, h2, r1⟩, r2 ρ H⟩
      · cases h
    | _ => simp [relK] at h
  | .lst l, u, h => by
    cases u with
    | ref a =>
      simp only [relK] at h
      split at h
      · rename_i c' its n sl e
        simp only [Bool.and_eq_true, decide_eq_true_eq] at h
        obtain ⟨⟨h1, h2⟩, h3⟩ := h
        subst h1
        obtain ⟨xs, r1, r2⟩ := relKs_ok hk h3
        refine ⟨.ref a, rfl, fun ρ H => ?_⟩
        simp only [RelW]
        exact ⟨a, xs, rfl, .inr ⟨_, its, n, e, rfl, rfl, rfl, h2, r1⟩, r2 ρ H⟩
      · cases h
    | _ => simp [relK] at h
  | .dct _ _, u, h => by cases u <;> simp [relK] at h
  | .ref _, u, h => by cases u <;> simp [relK] at h
  | .exn _ _, u, h => by cases u <;> simp [relK] at h
theorem relKs_ok (hk : kt = true → c.nm.ktup = true) : ∀ {ws : List W} {us : List Value}, relKs kt c.K ws us = true → ∃ vs, Vals vs us ∧ ∀ ρ H, RelL c ρ H ws vs
  | [], [], _ => ⟨[], .nil, fun _ _ => RelL.nil⟩
  | [], _ :: _, h => by simp [relKs] at h
  | _ :: _, [], h => by simp [relKs] at h
  | w :: ws, u :: us, h => by
    simp only [relKs, Bool.and_eq_true] at h
    obtain ⟨v, r1, r2⟩ := relK_ok hk h.1
    obtain ⟨vs, q1, q2⟩ := relKs_ok hk h.2
    exact ⟨v :: vs, .cons r1 q1, fun ρ H => RelL.cons (r2 ρ H) (q2 ρ H)⟩
end
end
def conB (kt : Bool) (K : PySem.W.Frag) (p : Str × W) : Bool := match PySem.W.nsIn K mainGlobals p.1 with
  | some (some u) => relK kt K p.2 u
  | _ => false
def clsAt (t : Tab) (n : Nat) : Str := (t.cls[n]?).getD ""
/-- an own exception class over ValueError with an __init__ of its own -/
def oexB (K : PySem.W.Frag) (C : Addr) : Bool := match K.lookup C with
  | some ⟨.type "type", _, .cls cd, sl⟩ => (match cd.mro, sl.toList with
    | .ref C' :: bm, [_, _, _, _, some (.builtin n), _] => C' == C && n == "ValueError.__new__" && !cd.hasDel && cd.hasDict && PySem.HandSPX.refsVE bm
    | _, _ => false)
  | _ => false
def ex1B (t : Tab) (K : PySem.W.Frag) (p : Nat × Nat × TD) : Bool := match t.fld[p.2.1]? with
  | none => false
  | some f => oexB K (He.ga K (clsAt t p.1)) && (He.eqO (PySem.W.findIn K (.ref (He.ga K (clsAt t p.1))) "__setattr__") (some (some (.builtin "object.__setattr__"))) && (decide (PySem.W.subIn K (.ref (He.ga K (clsAt t p.1))) (.type "BaseException") = some true) &&
    (decide (PySem.W.typeIn K (.ref (He.ga K (clsAt t p.1))) = some (.type "type")) && (PySem.W.keepIn K (.ref (He.ga K (clsAt t p.1))) && (He.eqO (PySem.W.findIn K (.ref (He.ga K (clsAt t p.1))) f) (some none) && (xfB K (He.ga K (clsAt t p.1)) &&
    (He.eqO (PySem.W.findIn K (.ref (He.ga K (clsAt t p.1))) "__init__") (some (some (.ref (He.fAd K p.2.2.at_)))) && decide (PySem.W.typeIn K (.ref (He.fAd K p.2.2.at_)) = some (.type "function")))))))))
/-- a class whose exceptions may be asked for -/
def excB (K : PySem.W.Frag) (D : Addr) : Bool := He.eqO (PySem.W.findIn K (.ref D) "__getattribute__") (some (some (.builtin "BaseException.__getattribute__"))) && (He.eqO (PySem.W.findIn K (.ref D) "__getattr__") (some none) && (decide (PySem.W.subIn K (.ref D) (.type "BaseException") = some true) &&
  (PySem.W.hasDictIn K D && (He.eqO (PySem.W.findIn K (.ref D) "__class__") (some (some (.builtin "object.__class__"))) && (He.eqO (PySem.W.specialIn K (.builtin "object.__class__") "__get__") (some (some (.builtin "getset_descriptor.__get__"))) &&
  (decide (PySem.W.takesIn K (.builtin "object.__class__") = some true) && decide (PySem.W.mroIn K D (.type "object") = some true)))))))
theorem excB_ok {K : PySem.W.Frag} {D : Addr} (h : excB K D = true) : ExcC K D := by
  obtain ⟨h1, h⟩ := He.ba h
  obtain ⟨h2, h⟩ := He.ba h
  obtain ⟨h3, h⟩ := He.ba h
  obtain ⟨h4, h⟩ := He.ba h
  obtain ⟨h5, h⟩ := He.ba h
  obtain ⟨h6, h⟩ := He.ba h
  obtain ⟨h7, h8⟩ := He.ba h
  exact ⟨He.eqO_ok h1, He.eqO_ok h2, of_decide_eq_true h3, h4, He.eqO_ok h5, He.eqO_ok h6, of_decide_eq_true h7, of_decide_eq_true h8⟩
def isB (t : Tab) (K : PySem.W.Frag) : Bool :=
  (t.ist.all fun p => excB K (He.ga K (clsAt t p.1.1)) && decide (PySem.W.kitOne K (.ref (He.ga K (clsAt t p.1.1))) (.ref (He.ga K (clsAt t p.1.2))) = some p.2)) &&
  t.isv.all fun k => excB K (He.ga K (clsAt t k)) && decide (PySem.W.kitOne K (.ref (He.ga K (clsAt t k))) (.type "ValueError") = some true)
/-- an own class, a method -/
def ownB (t : Tab) (K : PySem.W.Frag) (p : Nat × Nat) : Bool := (He.Fa.cls (clsAt t p.1)).ok K && ((He.Fa.mkr (clsAt t p.1)).ok K && ((t.fld.all fun f => (He.Fa.noat (clsAt t p.1) f).ok K) && (match t.T[p.2]? with
  | some d => decide (d.at_ = (clsAt t p.1, some ("__init__" : Str))) && decide (d.dfl = [])
  | none => false)))
def mthB (t : Tab) (K : PySem.W.Frag) (p : (Nat × Str) × Nat) : Bool := (He.Fa.meth (clsAt t p.1.1) p.1.2).ok K && (match t.T[p.2]? with
  | some d => decide (d.at_ = (clsAt t p.1.1, some p.1.2))
  | none => false)
def clB (t : Tab) (K : PySem.W.Frag) : Bool := t.own.all (ownB t K) && (t.mt.all (mthB t K) && decide (t.fld.Nodup))
/-- a dict of the module -/
def kdB (kt : Bool) (K : PySem.W.Frag) (p : Str × List (List Nat × W)) : Bool := (He.Fa.glo p.1).ok K && p.2.all fun q => (match PySem.W.nsIn K (He.ga K p.1) (sS q.1) with
  | some (some u) => relK kt K q.2 u
  | _ => false)
/-- everything that the walk asks of what the top leaves -/
def factB (t : Tab) (K : PySem.W.Frag) : Bool :=
  (t.all.all fun d => d.dd.ok K && (match d.cls with
    | none => (He.Fa.glo d.nm).ok K
    | some _ => true)) &&
  ((t.free.all fun x => (He.Fa.free x).ok K) &&
  (t.con.all (conB t.ktup K) &&
  (t.cls.all (fun x => (He.Fa.glo x).ok K) &&
  (t.ex0.all (fun n => (He.Fa.exc (clsAt t n)).ok K) &&
  ((t.xt.all fun p => (He.Fa.exm (clsAt t p.1.1) (clsAt t p.1.2) p.2).ok K) && (t.I.all (ex1B t K) && (isB t K && (clB t K && t.kd.all (kdB t.ktup K)))))))))
abbrev AlP : Type := Bool × List He.FnW × List (Option (List (Option (Str × Int))))
def obsP (t : Tab) (K : PySem.W.Frag) : AlP := (factB t K, t.all.map fun d => He.fnW K d.at_, t.kd.map fun p => He.dicW K (He.ga K p.1))
def valP (t : Tab) (w : World) : AlP := (true, t.all.map fun d => d.dd.val, t.kd.map fun p => some (He.keysIn w.params (p.2.map fun q => sS q.1)))
def obsPG (n : Nat) (t : Tab) (g : Addr → Option Obj) : AlP := obsP t (He.frG g (He.asD g n))
def hookP (n : Nat) (t : Tab) : PySem.W.Hook where
  α := AlP
  obs := fun s => obsPG n t s.heap.get?
  val := fun w => valP t w
  says := fun w h => ∃ K : PySem.W.Frag, K.In h ∧ obsP t K = valP t w
  of := fun _ _ e => ⟨_, He.frG_in, e⟩
  keeps := fun _ _ _ ⟨K, hK, c⟩ k => ⟨K, PySem.W.Frag.In.keeps hK k, c⟩
theorem obsPG_eq {n : Nat} {t : Tab} {g : Addr → Option Obj} {s : Shared} (h : ∀ a, g a = s.heap.get? a) : obsPG n t g = (hookP n t).obs s := by
  have e : g = s.heap.get? := funext h
  rw [e] <;> rfl

theorem mem_lkN {α : Type} {a : Nat} {b : α} : ∀ {l : List (Nat × α)}, l.lookup a = some b → (a, b) ∈ l
  | [], h => by cases h
  | (x, y) :: r, h => by
    rw [List.lookup_cons] at h
    cases e : a == x with
    | true =>
      rw [e] at h
      cases h
      rw [beq_iff_eq.mp e]
      exact List.mem_cons_self
    | false =>
      rw [e] at h
      exact List.mem_cons_of_mem _ (mem_lkN h)
theorem mem_lk {α : Type} {a : Nat × Nat} {b : α} : ∀ {l : List ((Nat × Nat) × α)}, l.lookup a = some b → (a, b) ∈ l
  | [], h => by cases h
  | (x, y) :: r, h => by
    rw [List.lookup_cons] at h
    cases e : a == x with
    | true =>
      rw [e] at h
      cases h
      rw [beq_iff_eq.mp e]
      exact List.mem_cons_self
    | false =>
      rw [e] at h
      exact List.mem_cons_of_mem _ (mem_lk h)
theorem mem_lkS {α : Type} {a : Nat × Str} {b : α} : ∀ {l : List ((Nat × Str) × α)}, l.lookup a = some b → (a, b) ∈ l
  | [], h => by cases h
  | (x, y) :: r, h => by
    rw [List.lookup_cons] at h
    cases e : a == x with
    | true =>
      rw [e] at h
      cases h
      rw [beq_iff_eq.mp e]
      exact List.mem_cons_self
    | false =>
      rw [e] at h
      exact List.mem_cons_of_mem _ (mem_lkS h)
/-! ### every def keeps its promise -/
section
variable {P : Program} {w : World} {K : PySem.W.Frag} {mg : Str → Option Value} {base h : Heap} {t : Tab}
abbrev cfg (t : Tab) (K : PySem.W.Frag) (P : Program) (w : World) : Cfg := ⟨K, fun n => He.ga K (clsAt t n), t.nm, P, w⟩
theorem says_all (S : obsP t K = valP t w) {d : TD} (e : d ∈ t.all) : (∃ fd, FunD K d.nm d.qual (defArgs d.st) (defBody d.st) (defScope d.st) (d.dd.dvs K) [] (He.fAd K d.at_) fd) ∧ (d.cls = none → (He.Fa.glo d.nm).ok K = true) := by
  have c1 : factB t K = true := congrArg (fun z : AlP => z.1) S
  have c2 : t.all.map (fun d => He.fnW K d.at_) = t.all.map fun d => d.dd.val := congrArg (fun z : AlP => z.2.1) S
  have c3 := List.all_eq_true.mp (He.ba c1).1 d e
  obtain ⟨c4, c5⟩ := He.ba c3
  have e2 := List.map_inj_left.mp c2 d e
  refine ⟨He.DefD.funD (d := d.dd) e2 c4, fun hc => ?_⟩
  rw [hc] at c5
  exact c5
theorem says_def (S : obsP t K = valP t w) {f : Nat} {d : TD} (e : t.T[f]? = some d) : (∃ fd, FunD K d.nm d.qual (defArgs d.st) (defBody d.st) (defScope d.st) (d.dd.dvs K) [] (He.fAd K d.at_) fd) ∧ (d.cls = none → (He.Fa.glo d.nm).ok K = true) :=
  says_all S (List.mem_append_left _ (List.mem_of_getElem? e))
theorem oexB_ok {C : Addr} (q : oexB K C = true) : ∃ nm qn N bs bm sn sub ab col dd k0 k1 k2 k3 k5, K.lookup C = some (excClassObj nm qn C N bs bm true sn sub ab col dd k0 k1 k2 k3 k5 "ValueError.__new__") ∧ PySem.HandSPX.refsVE bm = true := by
  unfold oexB at q
  split at q
  · rename_i dd cd sl ho
    split at q
    · rename_i C' bm k0 k1 k2 k3 n k5 hm hs
      simp only [Bool.and_eq_true, beq_iff_eq, Bool.not_eq_true'] at q
      obtain ⟨⟨⟨⟨rfl, rfl⟩, hdel⟩, hdi⟩, ht⟩ := q
      obtain ⟨nm, bs, mro, ns, qn, hd, sn, sub, ab, col, del⟩ := cd
      dsimp only at hm hdel hdi
      subst hm hdel hdi
      have hsl : sl = #[k0, k1, k2, k3, some (.builtin "ValueError.__new__"), k5] := by
        obtain ⟨l⟩ := sl
        simp only at hs
        rw [hs]
      subst hsl
      exact ⟨nm, qn, ns, bs, bm, sn, sub, ab, col, dd, k0, k1, k2, k3, k5, ho, ht⟩
    · cases q
  · cases q
/-- an __init__ that keeps what it is given -/
def initB (t : Tab) (p : Nat × Nat × TD) : Bool := p.2.2.dfl.isEmpty && (C8.scC p.2.2.N p.2.2.ps (defScope p.2.2.st) && decide (p.2.2.many = 2) && (match p.2.2.N, defBody p.2.2.st, t.fld[p.2.1]? with
  | [x, y], [.Assign [.Attribute (.Name x' _) f' _] (.Name y' _) _], some f => decide (x' = x) && decide (y' = y) && decide (f' = f) && locB (defScope p.2.2.st) x && locB (defScope p.2.2.st) y && plainN x && plainN y
  | _, _, _ => false))
theorem vis_of {sc : Scope} {x : Str} (h : locB sc x = true) : Vis sc x := by
  unfold locB kindIs at h
  simp only [Bool.or_eq_true, decide_eq_true_eq] at h
  rcases h with h | h
  · exact .inl h
  · exact .inr (.inl h)
theorem init_ok {p : Nat × Nat × TD} {fd : FuncData} {f : Str} {C fI : Addr} (T : OexC K C) (hno : PySem.W.findIn K (.ref C) f = some none) (F : FunD K p.2.2.nm p.2.2.qual (defArgs p.2.2.st) (defBody p.2.2.st) (defScope p.2.2.st) [] [] fI fd) (hf : t.fld[p.2.1]? = some f) (hB : initB t p = true) :
    FnOk P w K mg base (L2.CX P w) 1 fI fd p.2.2.ps (spI f C) := by
  unfold initB at hB
  simp only [Bool.and_eq_true, decide_eq_true_eq] at hB
  obtain ⟨_, ⟨h1, h2⟩, h3⟩ := hB
  split at h3
  · rename_i x y x' q1 f' q2 y' q3 q4 f2 eN eb ef
    simp only [Bool.and_eq_true, decide_eq_true_eq] at h3
    obtain ⟨⟨⟨⟨⟨⟨rfl, rfl⟩, rfl⟩, g4⟩, g5⟩, g6⟩, g7⟩ := h3
    rw [ef] at hf
    cases hf
    refine F.ok (C8.fnScope_by h1) (fun vs H Q E ⟨a, v, e, _⟩ => by subst e; unfold TD.ps; rw [eN, h2]; rfl) fun cdv A outer s H vs Q E hr ⟨a, v, e, ea, q⟩ => ?_
    subst e
    rw [eb, eN]
    simp only [plainN, Bool.and_eq_true, Bool.not_eq_true'] at g6 g7
    refine ⟨_, pss_one (ps_ost (pe_var (i := 0) rfl (vis_of g4) g6.1.1.1 g6.1.1.2) (pe_var (i := 1) rfl (vis_of g5) g7.1.1.1 g7.1.1.2) rfl), v, rfl, .ref a, rfl, a, C, rfl, T, hno, .inl ⟨ea, q⟩⟩
  · cases h3
/-- the tables agree -/
structure Good2 (t : Tab) : Prop where
  chk : pairB (defB t.nm) t.T t.fns = true
  bnd : ∀ (f : Nat) (d : TD), t.T[f]? = some d → d.Bnd
  ini : t.I.all (initB t) = true
  bndI : ∀ p ∈ t.I, p.2.2.Bnd
theorem lookup_mem {α β : Type} [BEq α] [LawfulBEq α] : ∀ {l : List (α × β)} {p : α × β}, p ∈ l → (l.lookup p.1).isSome = true
  | q :: l, p, h => by
    rw [List.lookup_cons]
    cases e : p.1 == q.1 with
    | true => rfl
    | false =>
      rcases List.mem_cons.mp h with z | z
      · subst z; simp at e
      · exact lookup_mem z
theorem lookup_in {α β : Type} [BEq α] [LawfulBEq α] : ∀ {l : List (α × β)} {a : α} {b : β}, l.lookup a = some b → (a, b) ∈ l
  | [], _, _, h => by cases h
  | q :: l, a, b, h => by
    rw [List.lookup_cons] at h
    cases e : a == q.1 with
    | true =>
      rw [e] at h
      cases h
      rw [beq_iff_eq.mp e]
      exact List.mem_cons_self
    | false =>
      rw [e] at h
      exact List.mem_cons_of_mem _ (lookup_in h)
theorem rel_dfl {c : Cfg} : ∀ {l : List W}, l.all simpleW = true → ∀ ρ H, RelL c ρ H l ((l.map dvW).map (He.Dv.v K))
  | [], _, _, _ => RelL.nil
  | w :: l, h, ρ, H => by
    rw [List.all_cons, Bool.and_eq_true] at h
    rw [List.map_cons, List.map_cons]
    refine RelL.cons ?_ (rel_dfl h.2 ρ H)
    cases w <;> first | (cases h.1; done) | simp [RelW, dvW, He.Dv.v]
theorem all_drop {l : List W} (h : l.all simpleW = true) (j : Nat) : (l.drop j).all simpleW = true := List.all_eq_true.mpr fun x hx => List.all_eq_true.mp h x (List.mem_of_mem_drop hx)
theorem bindsD {c : Cfg} {d : TD} {fd : FuncData} {f : Addr} (F : FunD K d.nm d.qual (defArgs d.st) (defBody d.st) (defScope d.st) (d.dd.dvs K) [] f fd) (B : d.Bnd) (hm : d.dfl.length ≤ d.ps.length) (hs : d.dfl.all simpleW = true) {ds : List W}
    (h : sameL ds (d.dfl.drop (d.dfl.length - ds.length)) = true) (hl : ds.length ≤ d.dfl.length) : ∃ dvs us, Binds K fd d.ps us ∧ Vals dvs us ∧ ∀ ρ H, RelL c ρ H ds dvs := by
  have e := sameL_eq h
  by_cases h0 : d.dfl = []
  · have ev : d.dd.dvs K = [] := by unfold TD.dd He.DefD.dvs; rw [h0]; rfl
    rw [ev] at F
    have e0 : ds = [] := by rw [e, h0]; simp
    subst e0
    exact ⟨[], [], FunD.bindsN F (B.1 h0), .nil, fun _ _ => RelL.nil⟩
  · have lv : (d.dd.dvs K).length = d.dfl.length := by unfold TD.dd He.DefD.dvs; simp
    have hne : d.dd.dvs K ≠ [] := fun z => h0 (List.length_eq_zero_iff.mp (by rw [← lv, z]; rfl))
    obtain ⟨us, v1, b1⟩ := FunD.binds1 (ps := d.ps) F (d.ps.length - (d.dfl.length - (d.dfl.length - ds.length))) (d.dfl.length - ds.length) hne (by rw [lv]; omega)
      (fun T kV doc pm an cdv ct us its l1 l2 => B.2 h0 _ (Nat.sub_le _ _) T kV doc pm an cdv ct us its l1 (by rw [l2, lv]))
    refine ⟨_, us, b1, v1, fun ρ H => ?_⟩
    have z := rel_dfl (K := K) (c := c) (all_drop hs (d.dfl.length - ds.length)) ρ H
    rw [List.map_drop, List.map_drop, ← e] at z
    exact z
theorem dic_none {ks : List Str} {a : Addr} {x : Str} (h : He.dicW K a = some (He.keysIn w.params ks)) (hx : x ∉ ks) : PySem.W.nsIn K a x = some none := by
  obtain ⟨es, n, D⟩ := He.dicW_ok h
  unfold He.dicW at h
  rw [D.at_] at h
  have hl : es.toList.map He.keyOf = He.keysIn w.params ks := by
    revert h
    show (match decide ("dict" = "dict") && ((#[] : Array (Option Value)).isEmpty && !(a == sysModules)) with
      | true => some (es.toList.map He.keyOf)
      | false => none) = _ → _
    rw [D.low]
    intro h
    exact Option.some.inj h
  have mem : ∀ e ∈ es.toList, ∃ y t, e.key = .str y t ∧ y ∈ ks := fun e he => by
    have m1 : He.keyOf e ∈ es.toList.map He.keyOf := List.mem_map.mpr ⟨e, he, rfl⟩
    rw [hl] at m1
    obtain ⟨y, hy, e1⟩ := List.mem_map.mp m1
    unfold He.keyOf at e1
    split at e1
    · rename_i z t q
      have e3 := congrArg Prod.fst (Option.some.inj e1)
      dsimp only at e3
      subst e3
      exact ⟨_, t, q, hy⟩
    · cases e1
  unfold PySem.W.nsIn
  rw [D.at_]
  dsimp only
  have f0 : es.toList.find? (fun e => e.key.isStr x) = none := by
    rw [List.find?_eq_none]
    intro e he
    obtain ⟨y, t, q, hy⟩ := mem e he
    rw [q]
    intro z
    have : y = x := by simpa [Value.isStr] using z
    subst this
    exact hx hy
  rw [f0]
  dsimp only
  have a0 : es.toList.any (fun e => e.refKey) = false := by
    rw [List.any_eq_false]
    intro e he
    obtain ⟨y, t, q, hy⟩ := mem e he
    unfold DictEntry.refKey
    rw [q]
    exact Bool.false_ne_true
  rw [a0]
  rfl
theorem says_globS (S : obsP t K = valP t w) (X : K.In h) (G : h.Ns mainGlobals mg) (T : Good2 t) : GlobS (cfg t K P w) P w K mg base t.g.xf t.g.xfl := by
  have c1 : factB t K = true := congrArg (fun z : AlP => z.1) S
  obtain ⟨_, c1⟩ := He.ba c1
  obtain ⟨_, c1⟩ := He.ba c1
  obtain ⟨_, c1⟩ := He.ba c1
  obtain ⟨c4, c1⟩ := He.ba c1
  obtain ⟨c5, c1⟩ := He.ba c1
  obtain ⟨c6, c1⟩ := He.ba c1
  obtain ⟨c7, _⟩ := He.ba c1
  refine ⟨fun n x e => ?_, fun n hn => ?_, fun n g e => ?_, fun n => rfl, fun n m b e => ?_⟩
  · have e : t.cls[n]? = some x := e
    have := He.glo_ok X G (List.all_eq_true.mp c4 x (List.mem_of_getElem? e))
    show mg x = some (.ref (He.ga K (clsAt t n)))
    unfold clsAt
    rw [e]; exact this
  · obtain ⟨q1, q2, q3, q4⟩ := He.exc_ok (List.all_eq_true.mp c5 n hn)
    exact ⟨q1, q2, q3, q4⟩
  · have e : t.exf.lookup n = some g := e
    obtain ⟨p, hp, he⟩ := List.mem_map.mp (mem_lkN (show List.lookup n (t.I.map fun p => (p.1, p.2.1)) = some g from e))
    obtain ⟨rfl, rfl⟩ := Prod.mk.inj he
    have q := List.all_eq_true.mp c7 p hp
    unfold ex1B at q
    split at q
    · cases q
    · rename_i f ef
      obtain ⟨q1, q⟩ := He.ba q
      obtain ⟨q2, q⟩ := He.ba q
      obtain ⟨q3, q⟩ := He.ba q
      obtain ⟨q4, q⟩ := He.ba q
      obtain ⟨q5, q⟩ := He.ba q
      obtain ⟨q6, q⟩ := He.ba q
      obtain ⟨q7, q⟩ := He.ba q
      obtain ⟨q8, q9⟩ := He.ba q
      obtain ⟨⟨fd, F⟩, _⟩ := says_all S (d := p.2.2) (List.mem_append_right _ (List.mem_map.mpr ⟨p, hp, rfl⟩))
      have d0 : p.2.2.dfl = [] := by
        have z := List.all_eq_true.mp T.ini p hp
        unfold initB at z
        exact List.isEmpty_iff.mp (He.ba z).1
      have F : FunD K p.2.2.nm p.2.2.qual (defArgs p.2.2.st) (defBody p.2.2.st) (defScope p.2.2.st) [] [] (He.fAd K p.2.2.at_) fd := by
        have e : p.2.2.dd.dvs K = [] := by unfold TD.dd He.DefD.dvs; rw [d0]; rfl
        rw [e] at F
        exact F
      have T1 : OexC K (He.ga K (clsAt t p.1)) := ⟨by
        obtain ⟨nm, qn, N, bs, bm, sn, sub, ab, col, dd, k0, k1, k2, k3, k5, z⟩ := oexB_ok q1
        exact ⟨nm, qn, N, bs, bm, sn, sub, ab, col, dd, k0, k1, k2, k3, k5, z⟩, He.eqO_ok q2, of_decide_eq_true q3, of_decide_eq_true q4, q5⟩
      exact ⟨f, ef, T1, He.eqO_ok q6, xfB_ok q7, _, fd, _, He.eqO_ok q8, of_decide_eq_true q9, init_ok T1 (He.eqO_ok q6) F ef (List.all_eq_true.mp T.ini p hp), FunD.bindsN F ((T.bndI p hp).1 d0)⟩
  · have e : t.xt.lookup (n, m) = some b := e
    exact He.exm_ok (List.all_eq_true.mp c6 ((n, m), b) (mem_lk e))
theorem dfl_parts (T : Good2 t) {f m : Nat} {d : TD} {ds : List W} (e1 : t.T[f]? = some d) (hd : Px.dflB (cfg t K P w).nm f m ds = true) : d.dfl.length ≤ d.ps.length ∧ d.dfl.all simpleW = true ∧ sameL ds (d.dfl.drop (d.dfl.length - ds.length)) = true ∧ ds.length ≤ d.dfl.length := by
  obtain ⟨fn, ef, hdB⟩ := (pairB_at T.chk f).1 d e1
  unfold defB at hdB
  simp only [Bool.and_eq_true, decide_eq_true_eq] at hdB
  obtain ⟨⟨⟨⟨⟨⟨h1, h2⟩, h3⟩, h4⟩, h5⟩, h6⟩, h7⟩ := hdB
  have hps : d.ps.length = d.many := by unfold TD.ps; rw [List.length_take]; omega
  unfold Px.dflB at hd
  have e2 : (cfg t K P w).nm.dfl[f]? = some d.dfl := by
    show (t.T.map fun d => d.dfl)[f]? = _
    rw [List.getElem?_map, e1]; rfl
  rw [e2] at hd
  simp only [Bool.and_eq_true, decide_eq_true_eq] at hd
  exact ⟨by rw [hps]; exact h5, h6, hd.1, hd.2⟩
theorem says_glob (S : obsP t K = valP t w) (X : K.In h) (G : h.Ns mainGlobals mg) (T : Good2 t) {k k' : Nat} (k2 : 2 ≤ k')
    (ih : ∀ f d fd, t.T[f]? = some d → FunD K d.nm d.qual (defArgs d.st) (defBody d.st) (defScope d.st) (d.dd.dvs K) [] (He.fAd K d.at_) fd → FnOk P w K mg base (L2.CX P w) k' (He.fAd K d.at_) fd d.ps (spF (cfg t K P w) (callF t.g k f)))
    (ih2 : ∀ f d fd, t.T[f]? = some d → FunD K d.nm d.qual (defArgs d.st) (defBody d.st) (defScope d.st) (d.dd.dvs K) [] (He.fAd K d.at_) fd → FnOk P w K mg base (L2.CX P w) (k' - 1) (He.fAd K d.at_) fd d.ps (spF (cfg t K P w) (callF t.g (k - 1) f))) :
    Glob (cfg t K P w) P w K mg base (callF t.g k) (mkI (callF t.g (k - 1))) k' := by
  have c1 : factB t K = true := congrArg (fun z : AlP => z.1) S
  have gs := says_globS (P := P) (w := w) (base := base) S X G T
  obtain ⟨_, c1⟩ := He.ba c1
  obtain ⟨c2, c1⟩ := He.ba c1
  obtain ⟨c3, c1⟩ := He.ba c1
  obtain ⟨_, c1⟩ := He.ba c1
  obtain ⟨_, c1⟩ := He.ba c1
  obtain ⟨_, c1⟩ := He.ba c1
  obtain ⟨_, c8⟩ := He.ba c1
  obtain ⟨c8, c10⟩ := He.ba c8
  obtain ⟨c8, c9⟩ := He.ba c8
  obtain ⟨c10, ckd⟩ := He.ba c10
  obtain ⟨c10, c11⟩ := He.ba c10
  obtain ⟨c11, c12⟩ := He.ba c11
  refine ⟨fun f x m ds e hd => ?_, fun x w' e => ?_, fun x hx => He.free_ok X G (List.all_eq_true.mp c2 x hx), gs.cls, ⟨fun k m b e => ?_, fun k hk => ?_, fun k g e => ?_, fun n g e => ?_, fun i j x e1 e2 => ?_⟩, gs.ex0, gs.ex1, k2, fun n g e => ?_, fun n m g j ds e hd => ?_, fun x tt e => ?_⟩
  · have e : (t.T.map fun d => (match d.cls with
      | none => some d.nm
      | some _ => none))[f]? = some (some x) := e
    rw [List.getElem?_map] at e
    cases e1 : t.T[f]? with
    | none => rw [e1] at e; cases e
    | some d =>
      rw [e1] at e
      cases hc : d.cls with
      | some _ => simp [hc] at e
      | none =>
        simp [hc] at e
        subst e
        obtain ⟨⟨fd, F⟩, hg⟩ := says_def S e1
        obtain ⟨hm, hs, h1, h2⟩ := dfl_parts T e1 hd
        have ha : He.fAd K d.at_ = He.ga K d.nm := by unfold TD.at_ He.fAd; rw [hc]
        obtain ⟨dvs, us, b1, b2, b3⟩ := bindsD (c := cfg t K P w) F (T.bnd f d e1) hm hs h1 h2
        refine ⟨He.fAd K d.at_, fd, d.ps, dvs, us, ih f d fd e1 F, ?_, F.kp, b1, b2, b3⟩
        rw [ha]
        exact He.glo_ok X G (hg hc)
  · have e : t.con.lookup x = some w' := e
    have q := List.all_eq_true.mp c3 (x, w') (PySem.mem_of_lookup e)
    unfold conB at q
    split at q
    · rename_i u e2
      obtain ⟨v, r1, r2⟩ := relK_ok (c := cfg t K P w) (kt := t.ktup) (fun z => z) q
      exact ⟨v, u, PySem.W.mg_of X G e2, r1, r2⟩
    · cases q
  · have e : t.ist.lookup (k, m) = some b := e
    obtain ⟨q1, q2⟩ := He.ba (List.all_eq_true.mp c8 ((k, m), b) (mem_lk e))
    exact ⟨excB_ok q1, of_decide_eq_true q2⟩
  · have hk : k ∈ t.isv := hk
    obtain ⟨q1, q2⟩ := He.ba (List.all_eq_true.mp c9 k hk)
    exact ⟨excB_ok q1, of_decide_eq_true q2⟩
  · obtain ⟨f, ef, E⟩ := gs.ex1 k g e
    refine ⟨E.xf, fun f' ef' => ?_⟩
    rw [ef] at ef'
    cases ef'
    exact E.hno
  · have e : t.own.lookup n = some g := e
    obtain ⟨q1, q⟩ := He.ba (List.all_eq_true.mp c10 (n, g) (mem_lkN e))
    obtain ⟨q2, q⟩ := He.ba q
    obtain ⟨q3, q4⟩ := He.ba q
    refine ⟨He.cls_ok q1, fun i f ef => ?_⟩
    have ef : t.fld[i]? = some f := ef
    exact He.noat_ok (List.all_eq_true.mp q3 f (List.mem_of_getElem? ef))
  · have e1 : t.fld[i]? = some x := e1
    have e2 : t.fld[j]? = some x := e2
    exact (List.getElem?_inj (List.getElem?_eq_some_iff.mp e1).1 (of_decide_eq_true c12)).mp (e1.trans e2.symm)
  · have e : t.own.lookup n = some g := e
    obtain ⟨q1, q⟩ := He.ba (List.all_eq_true.mp c10 (n, g) (mem_lkN e))
    obtain ⟨q2, q⟩ := He.ba q
    obtain ⟨q3, q4⟩ := He.ba q
    split at q4
    · rename_i d ed
      obtain ⟨q4, q5⟩ := He.ba q4
      have ed2 := of_decide_eq_true q4
      obtain ⟨⟨fd, F⟩, _⟩ := says_def S ed
      have M := He.mkr_ok q2
      have z := ih2 g d fd ed F
      have ea : He.fAd K d.at_ = He.ma K (He.ga K (clsAt t n)) "__init__" := by rw [ed2]; rfl
      have d0 : d.dfl = [] := of_decide_eq_true q5
      have F0 : FunD K d.nm d.qual (defArgs d.st) (defBody d.st) (defScope d.st) [] [] (He.fAd K d.at_) fd := by
        have e : d.dd.dvs K = [] := by unfold TD.dd He.DefD.dvs; rw [d0]; rfl
        rw [e] at F
        exact F
      refine ⟨_, fd, d.ps, callF t.g (k - 1), rfl, M, ?_, FunD.bindsN F0 ((T.bnd g d ed).1 d0)⟩
      rw [← ea]
      exact z
    · cases q4
  · have e : t.mt.lookup (n, m) = some g := e
    obtain ⟨q1, q4⟩ := He.ba (List.all_eq_true.mp c11 ((n, m), g) (mem_lkS e))
    split at q4
    · rename_i d ed
      have ed2 := of_decide_eq_true q4
      obtain ⟨⟨fd, F⟩, _⟩ := says_def S ed
      have M := He.meth_ok q1
      have z := ih g d fd ed F
      have ea : He.fAd K d.at_ = He.ma K (He.ga K (clsAt t n)) m := by rw [ed2]; rfl
      obtain ⟨hm, hs, h1, h2⟩ := dfl_parts T ed hd
      obtain ⟨dvs, us, b1, b2, b3⟩ := bindsD (c := cfg t K P w) F (T.bnd g d ed) hm hs h1 h2
      refine ⟨_, fd, d.ps, dvs, us, M, ?_, b1, b2, b3⟩
      rw [← ea]
      exact z
    · cases q4
  · have e : t.kd.lookup x = some tt := e
    have hmem := PySem.mem_of_lookup e
    obtain ⟨q1, q2⟩ := He.ba (List.all_eq_true.mp ckd (x, tt) hmem)
    have q2 := List.all_eq_true.mp q2
    have c3' : t.kd.map (fun p => He.dicW K (He.ga K p.1)) = t.kd.map fun p => some (He.keysIn w.params (p.2.map fun q => sS q.1)) := congrArg (fun z : AlP => z.2.2) S
    have dw := List.map_inj_left.mp c3' (x, tt) hmem
    refine ⟨He.ga K x, He.glo_ok X G q1, He.dicW_ok dw, fun s => ⟨fun hn => ?_, fun y hy => ?_⟩⟩
    · refine dic_none dw fun hm => ?_
      obtain ⟨q, hq, eq⟩ := List.mem_map.mp hm
      have eq2 : q.1 = s := by
        have z := congrArg uS eq
        simpa [uS, sS] using z
      have : (tt.lookup s).isSome = true := by
        rw [← eq2]
        exact lookup_mem hq
      rw [hn] at this; cases this
    · have z := q2 (s, y) (lookup_in hy)
      dsimp only at z
      split at z
      · rename_i u eu
        obtain ⟨v, r1, r2⟩ := relK_ok (c := cfg t K P w) (kt := t.ktup) (fun z => z) z
        exact ⟨u, v, eu, r1, r2⟩
      · cases z
theorem fnOk_no {k f : Nat} {d : TD} {fd : FuncData} {fa : Addr} : FnOk P w K mg base (L2.CX P w) k fa fd d.ps (spF (cfg t K P w) (callF t.g 0 f)) := by
  refine ⟨fun vs H Q E q => ?_, fun A outer s H args us vs Q E _ _ _ _ q => ?_⟩
  · obtain ⟨ρ, st, ws, _, _, q⟩ := q
    rw [call_zero] at q
    exact q.elim
  · obtain ⟨ρ, st, ws, _, _, q⟩ := q
    rw [call_zero] at q
    exact q.elim
theorem fnOk_two (S : obsP t K = valP t w) (X : K.In h) (G : h.Ns mainGlobals mg) (T : Good2 t) : ∀ (k : Nat), (∀ (f : Nat) (d : TD) (fd : FuncData), t.T[f]? = some d → FunD K d.nm d.qual (defArgs d.st) (defBody d.st) (defScope d.st) (d.dd.dvs K) [] (He.fAd K d.at_) fd → FnOk P w K mg base (L2.CX P w) (k + 2) (He.fAd K d.at_) fd d.ps (spF (cfg t K P w) (callF t.g k f))) ∧
    ∀ (f : Nat) (d : TD) (fd : FuncData), t.T[f]? = some d → FunD K d.nm d.qual (defArgs d.st) (defBody d.st) (defScope d.st) (d.dd.dvs K) [] (He.fAd K d.at_) fd → FnOk P w K mg base (L2.CX P w) (k + 1) (He.fAd K d.at_) fd d.ps (spF (cfg t K P w) (callF t.g (k - 1) f)) := by
  intro k
  induction k with
  | zero => exact ⟨fun f d fd e F => fnOk_no, fun f d fd e F => fnOk_no⟩
  | succ k ih =>
    obtain ⟨ih, ih2⟩ := ih
    refine ⟨fun f d fd e F => ?_, ih⟩
    obtain ⟨fn, ef, hdB⟩ := (pairB_at T.chk f).1 d e
    unfold defB at hdB
    simp only [Bool.and_eq_true, decide_eq_true_eq] at hdB
    obtain ⟨⟨⟨⟨⟨⟨h1, h2⟩, h3⟩, h4⟩, _⟩, _⟩, h5⟩ := hdB
    have hps : d.ps.length = d.many := by unfold TD.ps; rw [List.length_take]; omega
    have ef : t.g.fns[f]? = some fn := ef
    have SC : FnScope d.N d.ps (defScope d.st) := C8.fnScope_by h1
    have hlen : ∀ vs H Q E, spF (cfg t K P w) (callF t.g (k + 1) f) vs H Q E → vs.length = d.ps.length := fun vs H Q E q => by
      obtain ⟨ρ, st, ws, r, rl, q⟩ := q
      rw [call_bit] at q
      unfold callB at q
      rw [ef] at q
      dsimp only at q
      split at q
      · rename_i hl
        rw [hps, ← h2, ← hl, rl.length]
      · exact q.elim
    refine F.ok SC hlen fun cdv A outer s H vs Q E hr q => ?_
    have hl := hlen vs H Q E q
    obtain ⟨ρ, st, ws, r, rl, q⟩ := q
    rw [call_bit] at q
    unfold callB at q
    rw [ef] at q
    dsimp only at q
    split at q
    · rename_i hw
      have gb : Glob (cfg t K P w) P w K mg base (callF t.g k) (mkI (callF t.g (k - 1))) (k + 2) := says_glob S X G T (by omega) ih ih2
      refine ⟨_, SS_all (fun s' cs hch => sndS (c := cfg t K P w) (N := d.N) (sc := defScope d.st) (k := k + 2) (Wx := fun cls d _ H => E cls d H) 40 ?_ (takes_of rfl rfl rfl rfl) gb (says_globS S X G T) hch) h5, ρ, st, _, r, ?_, fin_ok r q⟩
      · refine ⟨⟨rfl, rfl, SC.nd, rfl, hr, fun x hx => ?_, fun x hx => ?_, fun x hx => ?_, fun x hx => hx, ⟨rfl, rfl⟩⟩, rfl, SC.kind, rfl, rfl, passes_of rfl, by omega, rfl⟩
        · unfold visB kindIs at hx
          simp only [Bool.or_eq_true, decide_eq_true_eq] at hx
          rcases hx with (hx | hx) | hx
          · exact .inl hx
          · exact .inr (.inl hx)
          · exact .inr (.inr hx)
        · unfold locB kindIs at hx
          simp only [Bool.or_eq_true, decide_eq_true_eq] at hx
          exact ⟨hx, .inl rfl⟩
        · unfold glB kindIs at hx
          exact (of_decide_eq_true hx : (defScope d.st).names.lookup x = some .globalImplicit)
      · have hv : vs.length = fn.many := by rw [hl, hps, h2]
        have he : L2.start d.N vs = vs.map some ++ List.replicate (fn.slots - fn.many) none := by unfold L2.start; rw [h3, hv]
        refine ⟨by rw [he]; simp [rl.length], fun i w' e1 => ?_⟩
        by_cases hi : i < ws.length
        · rw [List.getElem?_append_left (by simpa using hi), List.getElem?_map] at e1
          cases e2 : ws[i]? with
          | none => rw [e2] at e1; cases e1
          | some w2 =>
            rw [e2] at e1
            cases e1
            obtain ⟨v, e3, rv⟩ := rl.get e2
            refine ⟨v, ?_, rv⟩
            rw [he, List.getElem?_append_left (by rw [List.length_map, ← rl.length]; exact hi), List.getElem?_map, e3]
            rfl
        · rw [List.getElem?_append_right (by simpa using Nat.le_of_not_lt hi), List.getElem?_replicate] at e1
          split at e1 <;> cases e1
    · exact q.elim
theorem fnOk_all (S : obsP t K = valP t w) (X : K.In h) (G : h.Ns mainGlobals mg) (T : Good2 t) (k f : Nat) (d : TD) (fd : FuncData) (e : t.T[f]? = some d) (F : FunD K d.nm d.qual (defArgs d.st) (defBody d.st) (defScope d.st) (d.dd.dvs K) [] (He.fAd K d.at_) fd) : FnOk P w K mg base (L2.CX P w) (k + 2) (He.fAd K d.at_) fd d.ps (spF (cfg t K P w) (callF t.g k f)) := (fnOk_two S X G T k).1 f d fd e F
end
end Px

set_option linter.all false
set_option maxRecDepth 100000
/-! Px12: a law, by its run in our own small language. -/
namespace Px
open PySem PySem.Spec PyProof.Rows L2

theorem FnOk_e0 {P : Program} {w : World} {K : PySem.W.Frag} {mg : Str → Option Value} {base : Heap} {k : Nat} {f : Addr} {fd : FuncData} {ps : List Str} {sp : Sp} (F : FnOk P w K mg base (L2.CX P w) k f fd ps sp) : FnOk P w K mg base CX0 k f fd ps (fun vs H Q _ => sp vs H Q E0) :=
  ⟨fun vs H Q E q => F.len vs H Q E0 q, fun A outer s H args us vs Q E hr he hb hv hs => codeAny_mono (F.run A outer s H args us vs Q E0 hr he hb hv hs) fun r s' h => by
    cases r with
    | ok z => cases z <;> exact h
    | error e =>
      obtain ⟨_, _, _, _, _, _, _, _, _, _, _, _, z⟩ := (show L2.CX P w outer H s E0 e s' from h)
      exact z.elim⟩
theorem relInts0 {c : Cfg} {ρ : Rho} {H : Hp} : ∀ ns : List Int, RelL c ρ H (ns.map W.int) (ns.map V.int)
  | [] => RelL.nil
  | n :: ns => RelL.cons (by simp only [RelW]) (relInts0 ns)
theorem walk_px {l : PySem.W.OpenLaw} {t : Tab} {n k i m : Nat} {q : Program} {loose : List Str} {XP : (Str → Option Value) → Heap → Prop} {d : DefRec} {x : Str} {td : TD}
    (hn : l.most = some n) (hn2 : n ≤ sizeLine) (hdf : d.params.defaults = []) (hr : Room (k + 2) callerA) (T : Good2 t) (e : t.T[i]? = some td) (hc : td.cls = none) (hnm : td.nm = d.name) (hps : td.ps = [x]) (hd0 : td.dfl = [])
    (law : ∀ ns : List Int, ns.length ≤ n → ∃ st', callF t.g k i [.lst (ns.map .int)] [] = .ok (.bl true) st') :
    PySem.W.WalkO q loose XP (hookP m t).says l.row.toRowW d [] (fun f vs => PySem.call f vs) := by
  refine L2.walk_ofE (l := l) (n := n) (k := k + 2) (x := x) (CX := L2.CX0) hn hn2 hdf hr ?_ (fun _ _ _ _ z => z)
  intro w mg fa h Y G hmg
  obtain ⟨K, KX, S⟩ := Y
  obtain ⟨⟨fd, F⟩, hg⟩ := says_def S e
  have ha : He.fAd K td.at_ = He.ga K td.nm := by unfold TD.at_ He.fAd; rw [hc]
  have hfa : fa = He.fAd K td.at_ := by
    have z := He.glo_ok KX G (hg hc)
    rw [hnm, hmg] at z
    rw [ha, hnm]
    cases z; rfl
  subst hfa
  refine ⟨K, fd, fun vs H Q _ => spF (cfg t K l.prog w) (callF t.g k i) vs H Q E0, KX, fun s u => ?_, fun H a ns hl _ hS => ?_, fun base hb hG => ?_⟩
  · have F0 : FunD K td.nm td.qual (defArgs td.st) (defBody td.st) (defScope td.st) [] [] (He.fAd K td.at_) fd := by
      have e : td.dd.dvs K = [] := by unfold TD.dd He.DefD.dvs; rw [hd0]; rfl
      rw [e] at F
      exact F
    have b := FunD.bindsA F0 ((T.bnd i td e).1 hd0) s [u] (by rw [hps]; rfl)
    rw [hps] at b
    exact b
  · obtain ⟨st', hrun⟩ := law ns hl
    refine ⟨⟨[], []⟩, [], [.lst (ns.map .int)], ⟨rfl, List.nodup_nil, fun i o a e => by simp at e, fun a z => by cases z⟩, RelL.cons ?_ RelL.nil, ?_⟩
    · simp only [RelW]
      refine ⟨a, _, rfl, ?_, relInts0 ns⟩
      rcases hS with z | z
      · exact .inl ⟨z, fun y => by rcases y with y | y <;> cases y⟩
      · exact .inr z
    · rw [hrun]
      intro ρ' H' _ _ v rv
      simp only [RelW] at rv
      exact rv
  · have z := FnOk_e0 (fnOk_all (P := l.prog) (w := w) (base := base) S KX G T k i td fd e F)
    rw [hps] at z
    exact z
end Px

set_option linter.all false
set_option maxRecDepth 100000
/-! Px13: how a run is reckoned. Plain Lean. -/
namespace Px

theorem lpN_mono {σ ρ : Type} {f : σ → Sum σ ρ} : ∀ {n m : Nat} {s : σ} {r : ρ}, lpN f n s = some r → n ≤ m → lpN f m s = some r
  | 0, _, _, _, h, _ => by cases h
  | n + 1, 0, _, _, _, h => by cases h
  | n + 1, m + 1, s, r, h, hm => by
    unfold lpN at h ⊢
    cases e : f s with
    | inl s' => rw [e] at h; exact lpN_mono h (Nat.le_of_succ_le_succ hm)
    | inr r' => rw [e] at h; exact h
theorem lpN_fun {σ ρ : Type} {f : σ → Sum σ ρ} {n m : Nat} {s : σ} {r r' : ρ} (h : lpN f n s = some r) (h' : lpN f m s = some r') : r = r' := by
  have a := lpN_mono h (Nat.le_max_left n m)
  have b := lpN_mono h' (Nat.le_max_right n m)
  rw [a] at b
  exact Option.some.inj b
theorem lp_some {σ ρ : Type} {f : σ → Sum σ ρ} {s : σ} {r : ρ} {n : Nat} (h : lpN f n s = some r) : lp f s = some r := by
  unfold lp
  have hx : ∃ n r, lpN f n s = some r := ⟨n, r, h⟩
  rw [dif_pos hx]
  exact congrArg some (lpN_fun (Classical.choose_spec (Classical.choose_spec hx)) h)
theorem lp_inl {σ ρ : Type} {f : σ → Sum σ ρ} {s s' : σ} {r : ρ} (e : f s = .inl s') (h : lp f s' = some r) : lp f s = some r := by
  obtain ⟨n, hn⟩ := lp_of h
  refine lp_some (n := n + 1) ?_
  unfold lpN
  rw [e]; exact hn
theorem lp_inr {σ ρ : Type} {f : σ → Sum σ ρ} {s : σ} {r : ρ} (e : f s = .inr r) : lp f s = some r := by
  refine lp_some (n := 1) ?_
  unfold lpN
  rw [e]
/-- a class's instance is made -/
noncomputable def mkF (g : Gd) (k : Nat) : Nat → Nat → List W → St → R W := mkI (callF g (k - 1))
def mtF (g : Gd) : Nat → Nat → Option Nat := fun _ _ => none
@[simp] theorem mtF_no {g : Gd} {c f : Nat} : mtF g c f = none := rfl
theorem call_eq {g : Gd} {k f : Nat} {ws : List W} {st : St} {d : FnD} (e : g.fns[f]? = some d) (h : ws.length = d.many) : callF g (k + 1) f ws st = fin d.mode st (evSs (callF g k) (mkF g k) (mtF g) g.xf g.xfl d.body (ws.map some ++ List.replicate (d.slots - d.many) none) st) := by
  rw [call_bit]
  unfold callB
  rw [e]
  exact if_pos h
/-! ### how big a number is -/
def Bd (n : Nat) (x : Int) : Prop := x.natAbs < 2 ^ n
theorem Bd.log {n : Nat} {x : Int} (h : Bd n x) (hn : 0 < n) : x.natAbs.log2 < n := by
  by_cases hx : x.natAbs = 0
  · rw [hx]; simpa using hn
  · exact (Nat.log2_lt hx).mpr h
theorem Bd.mono {m n : Nat} {x : Int} (h : Bd m x) (hm : m ≤ n) : Bd n x := Nat.lt_of_lt_of_le h (Nat.pow_le_pow_right (by decide) hm)
theorem Bd.mul {m n : Nat} {x y : Int} (h : Bd m x) (k : Bd n y) : Bd (m + n) (x * y) := by
  unfold Bd at *
  rw [Int.natAbs_mul, Nat.pow_add]
  exact Nat.mul_lt_mul'' h k
theorem Bd.add {n : Nat} {x y : Int} (h : Bd n x) (k : Bd n y) : Bd (n + 1) (x + y) := by
  unfold Bd at *
  have := Int.natAbs_add_le x y
  rw [Nat.pow_succ]; omega
theorem Bd.sub {n : Nat} {x y : Int} (h : Bd n x) (k : Bd n y) : Bd (n + 1) (x - y) := by
  unfold Bd at *
  have := Int.natAbs_sub_le x y
  rw [Nat.pow_succ]; omega
theorem Bd.neg {n : Nat} {x : Int} (h : Bd n x) : Bd n (-x) := by unfold Bd at *; rwa [Int.natAbs_neg]
theorem Bd.le {n : Nat} {x y : Int} (h : Bd n y) (l : x.natAbs ≤ y.natAbs) : Bd n x := Nat.lt_of_le_of_lt l h
theorem mulI {st : St} {a b : Int} (h : Bd 100000 a) (k : Bd 100000 b) : opMul st (.int a) (.int b) = .ok (.int (a * b)) st := by
  unfold opMul
  have h1 := h.log (by decide)
  have h2 := k.log (by decide)
  exact if_pos (.inl (by omega))
theorem mulT {st : St} {a b : Int} (h : b.natAbs < 2 ^ 60) : opMul st (.int a) (.int b) = .ok (.int (a * b)) st := if_pos (.inr h)
theorem divI {st : St} {a b : Int} (h : b ≠ 0) (k : Bd 9000 b) : opDiv st (.int a) (.int b) = .ok (.int (a.fdiv b)) st := if_pos ⟨h, k.log (by decide)⟩
theorem modI {st : St} {a b : Int} (h : b ≠ 0) : opMod st (.int a) (.int b) = .ok (.int (a.fmod b)) st := if_pos h
theorem powI {st : St} {a b : Int} (h : 0 ≤ b) (h2 : b ≤ 1000000) (h3 : a.natAbs < 2 ^ 64) : opPow st (.int a) (.int b) = .ok (.int (a ^ b.toNat)) st := if_pos ⟨h, h2, h3⟩
theorem ext_abs (a : Int) : (if a < 0 then -a else a) = (a.natAbs : Int) := by split <;> omega

section
variable {cl : Nat → List W → St → R W} {mkc : Nat → Nat → List W → St → R W} {mt : Nat → Nat → Option Nat} {xf : Nat → Nat → Option Bool} {xfl : Nat → Option Nat} {e : Env} {s : St}
@[simp] theorem r_v {i : Nat} : evE cl mkc mt (.v i) e s = (match e[i]? with
  | some (some w) => .ok w s
  | _ => .bad) := by simp only [evE] <;> rfl
@[simp] theorem r_k {w : W} : evE cl mkc mt (.k w) e s = .ok w s := by simp only [evE]
@[simp] theorem r_tup {es : Es} : evE cl mkc mt (.tup es) e s = (evEs cl mkc mt es e s).bind fun ws s => .ok (.tup ws) s := by simp only [evE]
@[simp] theorem r_lst {fz : Bool} {es : Es} : evE cl mkc mt (.lst fz es) e s = (evEs cl mkc mt es e s).bind fun ws s => newL fz ws s := by simp only [evE]
@[simp] theorem r_op {o : Op2} {a b : E} : evE cl mkc mt (.op o a b) e s = (evE cl mkc mt a e s).bind fun x s => (evE cl mkc mt b e s).bind fun y s => op2 o x y s := by simp only [evE]
@[simp] theorem r_chain {o p : Op2} {a b c : E} : evE cl mkc mt (.chain o p a b c) e s = (evE cl mkc mt a e s).bind fun x s => (evE cl mkc mt b e s).bind fun y s => (op2 o x y s).bind fun z s => (match z with
  | .bl true => (evE cl mkc mt c e s).bind fun w s => op2 p y w s
  | .bl false => .ok (.bl false) s
  | _ => .bad) := by simp only [evE] <;> rfl
@[simp] theorem r_neg {a : E} : evE cl mkc mt (.neg a) e s = (evE cl mkc mt a e s).bind fun x s => (match x with
  | .int i => .ok (.int (-i)) s
  | _ => .bad) := by simp only [evE] <;> rfl
@[simp] theorem r_not {a : E} : evE cl mkc mt (.not_ a) e s = (evE cl mkc mt a e s).bind fun x s => okB s (notB (truth s x)) := by simp only [evE]
@[simp] theorem r_and {a b : E} : evE cl mkc mt (.and_ a b) e s = (evE cl mkc mt a e s).bind fun x s => (match truth s x with
  | some true => evE cl mkc mt b e s
  | some false => .ok x s
  | none => .bad) := by simp only [evE] <;> rfl
@[simp] theorem r_or {a b : E} : evE cl mkc mt (.or_ a b) e s = (evE cl mkc mt a e s).bind fun x s => (match truth s x with
  | some true => .ok x s
  | some false => evE cl mkc mt b e s
  | none => .bad) := by simp only [evE] <;> rfl
@[simp] theorem r_ite {c a b : E} : evE cl mkc mt (.ite c a b) e s = (evE cl mkc mt c e s).bind fun x s => (match truth s x with
  | some true => evE cl mkc mt a e s
  | some false => evE cl mkc mt b e s
  | none => .bad) := by simp only [evE] <;> rfl
@[simp] theorem r_ix {a i : E} : evE cl mkc mt (.ix a i) e s = (evE cl mkc mt a e s).bind fun x s => (evE cl mkc mt i e s).bind fun y s => ixW s x y := by simp only [evE]
theorem r_sl {fz : Bool} {a : E} {lo hi : Es} : evE cl mkc mt (.sl fz a lo hi) e s = (evE cl mkc mt a e s).bind fun x s => (evEs cl mkc mt lo e s).bind fun y s => (match part y with
  | some lo' => (evEs cl mkc mt hi e s).bind fun z s => (match part z with
    | some hi' => slW fz s x lo' hi'
    | none => .bad)
  | none => .bad) := by simp only [evE] <;> rfl
theorem part_one {w : W} : part [w] = (match w with
  | .int i => some (some i)
  | _ => none) := by cases w <;> rfl
@[simp] theorem r_sl00 {fz : Bool} {a : E} : evE cl mkc mt (.sl fz a .nil .nil) e s = (evE cl mkc mt a e s).bind fun x s => slW fz s x none none := by
  simp only [r_sl, evEs, R.bind_ok, part]
theorem one_es {a : E} : evEs cl mkc mt (.cons a .nil) e s = (evE cl mkc mt a e s).bind fun w s => .ok [w] s := by
  simp only [evEs, R.bind_ok]
@[simp] theorem r_sl01 {fz : Bool} {a h : E} : evE cl mkc mt (.sl fz a .nil (.cons h .nil)) e s = (evE cl mkc mt a e s).bind fun x s => (evE cl mkc mt h e s).bind fun z s => (match z with
    | .int j => slW fz s x none (some j)
    | _ => .bad) := by
  have n : ∀ s, evEs cl mkc mt .nil e s = .ok [] s := fun s => by simp only [evEs]
  rw [r_sl]
  congr 1
  funext x s
  rw [n, R.bind_ok]
  show ((evEs cl mkc mt (.cons h .nil) e s).bind fun z s => (match part z with
    | some hi' => slW fz s x none hi'
    | none => .bad)) = _
  rw [one_es]
  cases evE cl mkc mt h e s with
  | ok w s2 => simp only [R.bind_ok]; cases w <;> rfl
  | _ => rfl
@[simp] theorem r_sl10 {fz : Bool} {a l : E} : evE cl mkc mt (.sl fz a (.cons l .nil) .nil) e s = (evE cl mkc mt a e s).bind fun x s => (evE cl mkc mt l e s).bind fun z s => (match z with
    | .int j => slW fz s x (some j) none
    | _ => .bad) := by
  have n : ∀ s, evEs cl mkc mt .nil e s = .ok [] s := fun s => by simp only [evEs]
  rw [r_sl]
  congr 1
  funext x s
  rw [one_es]
  cases evE cl mkc mt l e s with
  | ok w s2 =>
    simp only [R.bind_ok]
    cases w with
    | int i =>
      show ((evEs cl mkc mt .nil e s2).bind fun z s => (match part z with
        | some hi' => slW fz s x (some i) hi'
        | none => .bad)) = _
      rw [n, R.bind_ok] <;> rfl
    | _ => rfl
  | _ => rfl
@[simp] theorem r_sl11 {fz : Bool} {a l h : E} : evE cl mkc mt (.sl fz a (.cons l .nil) (.cons h .nil)) e s = (evE cl mkc mt a e s).bind fun x s => (evE cl mkc mt l e s).bind fun z s => (match z with
    | .int j => (evE cl mkc mt h e s).bind fun z s => (match z with
      | .int i => slW fz s x (some j) (some i)
      | _ => .bad)
    | _ => .bad) := by
  rw [r_sl]
  congr 1
  funext x s
  rw [one_es]
  cases evE cl mkc mt l e s with
  | ok w s2 =>
    simp only [R.bind_ok]
    cases w with
    | int i =>
      show ((evEs cl mkc mt (.cons h .nil) e s2).bind fun z s => (match part z with
        | some hi' => slW fz s x (some i) hi'
        | none => .bad)) = _
      rw [one_es]
      cases evE cl mkc mt h e s2 with
      | ok u s3 => simp only [R.bind_ok]; cases u <;> rfl
      | _ => rfl
    | _ => rfl
  | _ => rfl
@[simp] theorem r_fld {a : E} {f : Nat} {ks : List Nat} : evE cl mkc mt (.fld a f ks) e s = (evE cl mkc mt a e s).bind fun x s => fldW s x f ks := by simp only [evE]
@[simp] theorem r_dct {t : Bool} {ps : Es} : evE cl mkc mt (.dct t ps) e s = (match evEs cl mkc mt ps e s with
  | .ok ws s2 => newD t ws s2
  | _ => .bad) := by simp only [evE] <;> rfl
@[simp] theorem r_mkx {n : Nat} {es : Es} : evE cl mkc mt (.mkx n es) e s = (evEs cl mkc mt es e s).bind fun ws s => .ok (.exn n ws) s := by simp only [evE]
@[simp] theorem r_call {f : Nat} {es : Es} {ds : List W} : evE cl mkc mt (.call f es ds) e s = (evEs cl mkc mt es e s).bind fun ws s => cl f (ws ++ ds) s := by simp only [evE]
@[simp] theorem r_bi {fz : Bool} {b : Bi} {es : Es} : evE cl mkc mt (.bi fz b es) e s = (evEs cl mkc mt es e s).bind fun ws s => biW fz b ws s := by simp only [evE]
@[simp] theorem r_isi {a : E} {ts : List Ty} : evE cl mkc mt (.isi a ts) e s = (evE cl mkc mt a e s).bind fun x s => okB s (isTys s x ts) := by simp only [evE]
@[simp] theorem r_lc {fz : Bool} {tg : Tg} {it : It} {c el : E} : evE cl mkc mt (.lc fz tg it c el) e s = (evIt cl mkc mt it e s).bind fun wk s => (lcL wk.chk tg (evE cl mkc mt c) (evE cl mkc mt el) e wk.items [] s).bind fun l s => newL fz l s := by simp only [evE]
@[simp] theorem r_nil : evEs cl mkc mt .nil e s = .ok [] s := by simp only [evEs]
@[simp] theorem r_cons {a : E} {es : Es} : evEs cl mkc mt (.cons a es) e s = (evE cl mkc mt a e s).bind fun w s => (evEs cl mkc mt es e s).bind fun ws s => .ok (w :: ws) s := by simp only [evEs]
@[simp] theorem r_val {a : E} : evIt cl mkc mt (.val a) e s = (evE cl mkc mt a e s).bind fun w s => (match walkVal s w with
  | some wk => .ok wk s
  | none => .bad) := by simp only [evIt] <;> rfl
@[simp] theorem r_range {es : Es} : evIt cl mkc mt (.range es) e s = (evEs cl mkc mt es e s).bind fun ws s => (match walkRange ws with
  | some wk => .ok wk s
  | none => .bad) := by simp only [evIt] <;> rfl
@[simp] theorem rs_of_ok {w : W} {f : W → St → RS} : RS.of e (.ok w s) f = f w s := rfl
@[simp] theorem rs_of_exc {c : Nat} {l : List W} {f : W → St → RS} : RS.of e (.exc c l s) f = .exc c l e s := rfl
@[simp] theorem rs_ofL_ok {w : List W} {f : List W → St → RS} : RS.ofL e (.ok w s) f = f w s := rfl
@[simp] theorem rs_ofL_exc {c : Nat} {l : List W} {f : List W → St → RS} : RS.ofL e (.exc c l s) f = .exc c l e s := rfl
@[simp] theorem rs_ofW_ok {w : Walk} {f : Walk → St → RS} : RS.ofW e (.ok w s) f = f w s := rfl
@[simp] theorem rs_ofW_exc {c : Nat} {l : List W} {f : Walk → St → RS} : RS.ofW e (.exc c l s) f = .exc c l e s := rfl
@[simp] theorem nxO_some {e' : Env} : nxO s (some e') = .nx e' s := rfl
@[simp] theorem s_set {i : Nat} {a : E} : evS cl mkc mt xf xfl (.set i a) e s = RS.of e (evE cl mkc mt a e s) fun w s => .nx (e.set i (some w)) s := by simp only [evS]
@[simp] theorem s_setI {o i a : E} : evS cl mkc mt xf xfl (.setI o i a) e s = RS.of e (evE cl mkc mt a e s) fun w s => RS.of e (evE cl mkc mt o e s) fun x s => RS.of e (evE cl mkc mt i e s) fun y s => (match setIW s x y w with
  | some s' => .nx e s'
  | none => .bad) := by simp only [evS] <;> rfl
@[simp] theorem s_setT {is : List Nat} {a : E} : evS cl mkc mt xf xfl (.setT is a) e s = RS.of e (evE cl mkc mt a e s) fun w s => (match listOf s w with
  | some l => nxO s (setMany is l e)
  | none => .bad) := by simp only [evS] <;> rfl
@[simp] theorem s_par {is : List Nat} {es : Es} : evS cl mkc mt xf xfl (.par is es) e s = RS.ofL e (evEs cl mkc mt es e s) fun ws s => nxO s (setMany is ws e) := by simp only [evS]
@[simp] theorem s_ex {a : E} : evS cl mkc mt xf xfl (.ex a) e s = RS.of e (evE cl mkc mt a e s) fun _ s => .nx e s := by simp only [evS]
@[simp] theorem s_ret {a : E} : evS cl mkc mt xf xfl (.ret a) e s = RS.of e (evE cl mkc mt a e s) fun w s => .ret w s := by simp only [evS]
@[simp] theorem s_ite {c : E} {a b : Ss} : evS cl mkc mt xf xfl (.ite c a b) e s = RS.of e (evE cl mkc mt c e s) fun w s => (match truth s w with
  | some true => evSs cl mkc mt xf xfl a e s
  | some false => evSs cl mkc mt xf xfl b e s
  | none => .bad) := by simp only [evS] <;> rfl
@[simp] theorem s_for {tg : Tg} {it : It} {b : Ss} : evS cl mkc mt xf xfl (.for_ tg it b) e s = RS.ofW e (evIt cl mkc mt it e s) fun wk s => forL wk.chk tg (evSs cl mkc mt xf xfl b) wk.items e s := by simp only [evS]
@[simp] theorem s_brk : evS cl mkc mt xf xfl .brk e s = .brk e s := by simp only [evS]
@[simp] theorem s_cont : evS cl mkc mt xf xfl .cont e s = .ct e s := by simp only [evS]
@[simp] theorem s_pass : evS cl mkc mt xf xfl .pass e s = .nx e s := by simp only [evS]
@[simp] theorem s_rse {c : Nat} {es : Es} : evS cl mkc mt xf xfl (.rse c es) e s = RS.ofL e (evEs cl mkc mt es e s) fun ws s => .exc c ws e s := by simp only [evS]
@[simp] theorem s_try {b : Ss} {c : Nat} {h : Hd} : evS cl mkc mt xf xfl (.try_ b c h) e s = (match evSs cl mkc mt xf xfl b e s with
  | .exc c' l e2 s2 => (match xf c' c with
    | some true => hdl xfl h c' l e2 s2
    | some false => .exc c' l e2 s2
    | none => .bad)
  | r => r) := by simp only [evS] <;> rfl
@[simp] theorem ss_nil : evSs cl mkc mt xf xfl .nil e s = .nx e s := by simp only [evSs]
@[simp] theorem ss_cons {a : S} {r : Ss} : evSs cl mkc mt xf xfl (.cons a r) e s = (match evS cl mkc mt xf xfl a e s with
  | .nx e2 s2 => evSs cl mkc mt xf xfl r e2 s2
  | q => q) := by simp only [evSs] <;> rfl
/-- one turn of a while -/
noncomputable def turn (cl : Nat → List W → St → R W) (mkc : Nat → Nat → List W → St → R W) (mt : Nat → Nat → Option Nat) (xf : Nat → Nat → Option Bool) (xfl : Nat → Option Nat) (c : E) (b : Ss) : Env × St → Sum (Env × St) RS := fun es => (match evE cl mkc mt c es.1 es.2 with
  | .ok w s2 => (match truth s2 w with
    | some true => (match evSs cl mkc mt xf xfl b es.1 s2 with
      | .nx e3 s3 => Sum.inl (e3, s3)
      | .ct e3 s3 => Sum.inl (e3, s3)
      | .brk e3 s3 => Sum.inr (.nx e3 s3)
      | r => Sum.inr r)
    | some false => Sum.inr (.nx es.1 s2)
    | none => Sum.inr .bad)
  | .exc c l s2 => Sum.inr (.exc c l es.1 s2)
  | .bad => Sum.inr .bad)
@[simp] theorem s_whl {c : E} {b : Ss} : evS cl mkc mt xf xfl (.whl c b) e s = (lp (turn cl mkc mt xf xfl c b) (e, s)).getD .bad := by simp only [evS] <;> rfl
@[simp] theorem r_mk {c f : Nat} {es : Es} : evE cl mkc mt (.mk c f es) e s = (evEs cl mkc mt es e s).bind fun ws s => mkc c f ws s := by simp only [evE]
@[simp] theorem r_mine {a : E} {c f : Nat} {es : Es} {ds : List W} : evE cl mkc mt (.mine a c f es ds) e s = (evE cl mkc mt a e s).bind fun x s => if insOf s x = some c ∧ mt c f = none then (evEs cl mkc mt es e s).bind fun ws s => cl f (x :: (ws ++ ds)) s else .bad := by simp only [evE] <;> rfl
@[simp] theorem r_kin {neg : Bool} {a : E} {t : List (List Nat × W)} : evE cl mkc mt (.kin neg a t) e s = (evE cl mkc mt a e s).bind fun x s => kinW neg t s x := by simp only [evE]
@[simp] theorem r_kix {a : E} {t : List (List Nat × W)} : evE cl mkc mt (.kix t a) e s = (evE cl mkc mt a e s).bind fun x s => kixW t s x := by simp only [evE]
@[simp] theorem r_dget {a b d : E} : evE cl mkc mt (.dget a b d) e s = (evE cl mkc mt a e s).bind fun x s => if isDf s x = true then (evE cl mkc mt b e s).bind fun k s => (evE cl mkc mt d e s).bind fun y s => dgetW s x k y else .bad := by simp only [evE]
@[simp] theorem r_sdf {a b d : E} : evE cl mkc mt (.sdf a b d) e s = (evE cl mkc mt a e s).bind fun x s => if isDf s x = true then (evE cl mkc mt b e s).bind fun k s => (evE cl mkc mt d e s).bind fun y s => sdfW s x k y else .bad := by simp only [evE]
@[simp] theorem r_sit {fz : Bool} {a : E} : evE cl mkc mt (.sit fz a) e s = (evE cl mkc mt a e s).bind fun x s => sitW fz s x := by simp only [evE]
@[simp] theorem s_setF {o a : E} {f : Nat} : evS cl mkc mt xf xfl (.setF o f a) e s = RS.of e (evE cl mkc mt a e s) fun w s => RS.of e (evE cl mkc mt o e s) fun x s => (match setFW s x f w with
  | some s' => .nx e s'
  | none => .bad) := by simp only [evS] <;> rfl
@[simp] theorem r_rvl {fz : Bool} {a : E} : evE cl mkc mt (.rvl fz a) e s = (evE cl mkc mt a e s).bind fun x s => (match lstOf s x with
  | some l => newL fz l.reverse s
  | none => .bad) := by simp only [evE] <;> rfl
@[simp] theorem r_meth {fz : Bool} {a : E} {m : M} {es : Es} : evE cl mkc mt (.meth fz a m es) e s = (evE cl mkc mt a e s).bind fun x s => (match recv s x with
  | some k => if mok k m = true then (evEs cl mkc mt es e s).bind fun ws s => methW fz m x ws s else .bad
  | none => .bad) := by simp only [evE] <;> rfl
end
@[simp] theorem okB_some {st : St} {b : Bool} : okB st (some b) = .ok (.bl b) st := rfl
@[simp] theorem okO_some {st : St} {w : W} : okO st (some w) = .ok w st := rfl
@[simp] theorem notB_some {b : Bool} : notB (some b) = some (!b) := rfl
@[simp] theorem truth_bl {st : St} {b : Bool} : truth st (.bl b) = some b := rfl
@[simp] theorem truth_int {st : St} {i : Int} : truth st (.int i) = some (!decide (i = 0)) := rfl
@[simp] theorem truth_non {st : St} : truth st .non = some false := rfl
@[simp] theorem truth_lst {st : St} {l : List W} : truth st (.lst l) = some (!l.isEmpty) := rfl
@[simp] theorem truth_tup {st : St} {l : List W} : truth st (.tup l) = some (!l.isEmpty) := rfl
@[simp] theorem o_add {x y : W} {s : St} : op2 .add x y s = opAdd s x y := rfl
@[simp] theorem o_sub {x y : W} {s : St} : op2 .sub x y s = opSub s x y := rfl
@[simp] theorem o_mul {x y : W} {s : St} : op2 .mul x y s = opMul s x y := rfl
@[simp] theorem o_fdiv {x y : W} {s : St} : op2 .fdiv x y s = opDiv s x y := rfl
@[simp] theorem o_mod {x y : W} {s : St} : op2 .mod x y s = opMod s x y := rfl
@[simp] theorem o_pow {x y : W} {s : St} : op2 .pow x y s = opPow s x y := rfl
@[simp] theorem o_eq {x y : W} {s : St} : op2 .eq x y s = okB s (eqR s x y) := rfl
@[simp] theorem o_ne {x y : W} {s : St} : op2 .ne x y s = okB s (notB (eqR s x y)) := rfl
@[simp] theorem o_lt {x y : W} {s : St} : op2 .lt x y s = opLt s x y := rfl
@[simp] theorem o_le {x y : W} {s : St} : op2 .le x y s = opLe s x y := rfl
@[simp] theorem o_gt {x y : W} {s : St} : op2 .gt x y s = opLt s y x := rfl
@[simp] theorem o_ge {x y : W} {s : St} : op2 .ge x y s = opGe s x y := rfl
@[simp] theorem o_is {x y : W} {s : St} : op2 .is_ x y s = okB s (isR x y) := rfl
@[simp] theorem o_isn {x y : W} {s : St} : op2 .isn x y s = okB s (notB (isR x y)) := rfl
@[simp] theorem o_in {x y : W} {s : St} : op2 .in_ x y s = okB s (inR s x y) := rfl
@[simp] theorem o_nin {x y : W} {s : St} : op2 .nin x y s = okB s (notB (inR s x y)) := rfl
@[simp] theorem addII {s : St} {a b : Int} : opAdd s (.int a) (.int b) = .ok (.int (a + b)) s := rfl
@[simp] theorem subII {s : St} {a b : Int} : opSub s (.int a) (.int b) = .ok (.int (a - b)) s := rfl
@[simp] theorem ltII {s : St} {a b : Int} : opLt s (.int a) (.int b) = .ok (.bl (decide (a < b))) s := rfl
@[simp] theorem geII {s : St} {a b : Int} : opGe s (.int a) (.int b) = .ok (.bl (decide (b ≤ a))) s := rfl
@[simp] theorem leII {s : St} {a b : Int} : opLe s (.int a) (.int b) = .ok (.bl (decide (a ≤ b))) s := rfl
@[simp] theorem eqII {s : St} {a b : Int} : eqR s (.int a) (.int b) = some (decide (a = b)) := rfl
@[simp] theorem eqSS {s : St} {a b : List Nat} : eqR s (.str a) (.str b) = some (decide (a = b)) := by
  show some (a == b) = _
  by_cases h : a = b <;> simp [h]
@[simp] theorem isNN {s : St} : isR .non .non = some true := rfl
@[simp] theorem isBB {a b : Bool} : isR (.bl a) (.bl b) = some (decide (a = b)) := by cases a <;> cases b <;> rfl
@[simp] theorem isBN {a : Bool} : isR (.bl a) .non = some false := rfl
@[simp] theorem isIN {a : Int} : isR (.int a) .non = some false := rfl
@[simp] theorem isSN {a : List Nat} : isR (.str a) .non = some false := rfl
@[simp] theorem isTN {a : List W} : isR (.tup a) .non = some false := rfl
@[simp] theorem isLN {a : List W} : isR (.lst a) .non = some false := rfl
@[simp] theorem isRN {a : Nat} : isR (.ref a) .non = some false := rfl
@[simp] theorem bi_abs {fz : Bool} {i : Int} {s : St} : biW fz .abs [.int i] s = .ok (.int (i.natAbs : Int)) s := by
  simp only [biW, biAbs]
  show R.ok (W.int (if i < 0 then -i else i)) s = _
  rw [ext_abs]
@[simp] theorem bi_lenL {fz : Bool} {l : List W} {s : St} : biW fz .len [.lst l] s = .ok (.int l.length) s := rfl
@[simp] theorem bi_lenT {fz : Bool} {l : List W} {s : St} : biW fz .len [.tup l] s = .ok (.int l.length) s := rfl
@[simp] theorem ix_lst {s : St} {l : List W} {i : Int} : ixW s (.lst l) (.int i) = okO s (ixL l i) := rfl
@[simp] theorem ix_tup {s : St} {l : List W} {i : Int} : ixW s (.tup l) (.int i) = okO s (ixL l i) := rfl
@[simp] theorem ixL_0 {α : Type} {x : α} {l : List α} : ixL (x :: l) 0 = some x := rfl
@[simp] theorem ixL_1 {α : Type} {x y : α} {l : List α} : ixL (x :: y :: l) 1 = some y := rfl
@[simp] theorem ixL_2 {α : Type} {x y z : α} {l : List α} : ixL (x :: y :: z :: l) 2 = some z := rfl
theorem ixL_pos {α : Type} {l : List α} {i : Int} (h : 0 ≤ i) : ixL l i = l[i.toNat]? := if_pos h
@[simp] theorem newL_t {l : List W} {s : St} : newL true l s = .ok (.lst l) s := rfl
@[simp] theorem newL_f {l : List W} {s : St} : newL false l s = .ok (.ref s.length) (s ++ [.lst l]) := rfl
@[simp] theorem fin_ret {s s2 : St} {w : W} : fin .raw s (.ret w s2) = .ok w s2 := rfl
@[simp] theorem fin_nx {s s2 : St} {e : Env} : fin .raw s (.nx e s2) = .ok .non s2 := rfl
@[simp] theorem fin_exc {s s2 : St} {e : Env} {c : Nat} {l : List W} : fin .raw s (.exc c l e s2) = .exc c l s2 := rfl
@[simp] theorem isTys1 {s : St} {w : W} {t : Ty} : isTys s w [t] = isTy s w t := rfl
@[simp] theorem listOf_lst {s : St} {l : List W} : listOf s (.lst l) = some l := rfl
@[simp] theorem listOf_tup {s : St} {l : List W} : listOf s (.tup l) = some l := rfl
@[simp] theorem hdl_set {xfl : Nat → Option Nat} {i c : Nat} {w : W} {l : List W} {e : Env} {s : St} : hdl xfl (.set i w) c l e s = .nx (e.set i (some w)) s := rfl
end Px

set_option linter.all false
set_option maxRecDepth 100000
/-! Px14: loops, comprehensions: what they reckon. -/
namespace Px

/-- parts of a text of ours -/
def tl : Nat → Ss → Ss
  | 0, s => s
  | n + 1, .cons _ r => tl n r
  | _, .nil => .nil
def at_ : Nat → Ss → S
  | 0, .cons s _ => s
  | n + 1, .cons _ r => at_ n r
  | _, .nil => .pass
def lpB : S → Ss
  | .for_ _ _ b => b
  | .whl _ b => b
  | .ite _ b _ => b
  | _ => .nil
theorem ss_step {cl : Nat → List W → St → R W} {mkc : Nat → Nat → List W → St → R W} {mt : Nat → Nat → Option Nat} {xf : Nat → Nat → Option Bool} {xfl : Nat → Option Nat} {a : S} {r : Ss} {e e2 : Env} {s s2 : St} (h : evS cl mkc mt xf xfl a e s = .nx e2 s2) : evSs cl mkc mt xf xfl (.cons a r) e s = evSs cl mkc mt xf xfl r e2 s2 := by rw [ss_cons, h]
@[simp] theorem forL_nil {chk : St → Prop} {tg : Tg} {body : Env → St → RS} {e : Env} {s : St} : forL chk tg body [] e s = open Classical in (if chk s then .nx e s else .bad) := by unfold forL; rfl
theorem forL_cons {chk : St → Prop} {tg : Tg} {body : Env → St → RS} {x : W} {xs : List W} {e e' : Env} {s : St} (h : chk s) (ht : setTg tg x e = some e') : forL chk tg body (x :: xs) e s = (match body e' s with
    | .nx e2 s2 => forL chk tg body xs e2 s2
    | .ct e2 s2 => forL chk tg body xs e2 s2
    | .brk e2 s2 => .nx e2 s2
    | r => r) := by
  rw [forL, if_pos h]
  simp only [ht] <;> rfl
/-- a walk with an invariant: what is left, the slots, the store -/
theorem forL_to {chk : St → Prop} {tg : Tg} {body : Env → St → RS} (I : List W → Env → St → Prop) (hc : ∀ l e s, I l e s → chk s)
    (step : ∀ x l e s, I (x :: l) e s → ∃ e' e2 s2, setTg tg x e = some e' ∧ (body e' s = .nx e2 s2 ∨ body e' s = .ct e2 s2) ∧ I l e2 s2) : ∀ (l : List W) (e : Env) (s : St), I l e s → ∃ e2 s2, forL chk tg body l e s = .nx e2 s2 ∧ I [] e2 s2
  | [], e, s, h => ⟨e, s, by rw [forL_nil, if_pos (hc _ _ _ h)], h⟩
  | x :: l, e, s, h => by
    obtain ⟨e', e2, s2, h1, h2, h3⟩ := step x l e s h
    obtain ⟨e3, s3, k1, k2⟩ := forL_to I hc step l e2 s2 h3
    refine ⟨e3, s3, ?_, k2⟩
    rw [forL_cons (hc _ _ _ h) h1]
    rcases h2 with h2 | h2 <;> rw [h2] <;> exact k1
/-- .. or left by a return -/
theorem forL_or {chk : St → Prop} {tg : Tg} {body : Env → St → RS} (I : List W → Env → St → Prop) (T : W → St → Prop) (hc : ∀ l e s, I l e s → chk s)
    (step : ∀ x l e s, I (x :: l) e s → ∃ e', setTg tg x e = some e' ∧ ((∃ e2 s2, (body e' s = .nx e2 s2 ∨ body e' s = .ct e2 s2) ∧ I l e2 s2) ∨ ∃ w s2, body e' s = .ret w s2 ∧ T w s2)) : ∀ (l : List W) (e : Env) (s : St), I l e s → (∃ e2 s2, forL chk tg body l e s = .nx e2 s2 ∧ I [] e2 s2) ∨ ∃ w s2, forL chk tg body l e s = .ret w s2 ∧ T w s2
  | [], e, s, h => .inl ⟨e, s, by rw [forL_nil, if_pos (hc _ _ _ h)], h⟩
  | x :: l, e, s, h => by
    obtain ⟨e', h1, h2⟩ := step x l e s h
    rw [forL_cons (hc _ _ _ h) h1]
    rcases h2 with ⟨e2, s2, h2, h3⟩ | ⟨w, s2, h2, h3⟩
    · have ih := forL_or I T hc step l e2 s2 h3
      rcases h2 with h2 | h2 <;> rw [h2] <;> exact ih
    · rw [h2]
      exact .inr ⟨w, s2, rfl, h3⟩
/-- a comprehension -/
theorem lcL_map {chk : St → Prop} {tg : Tg} {c e : Env → St → R W} {env : Env} {s : St} {p : W → Bool} {f : W → W} (hc : chk s) : ∀ (l acc : List W), acc.length + l.length ≤ line →
    (∀ x ∈ l, ∃ e', setTg tg x env = some e' ∧ c e' s = .ok (.bl (p x)) s ∧ (p x = true → e e' s = .ok (f x) s)) → lcL chk tg c e env l acc s = .ok (acc ++ (l.filter p).map f) s
  | [], acc, _, _ => by rw [lcL, if_pos hc]; simp
  | x :: l, acc, hl, h => by
    obtain ⟨e', h1, h2, h3⟩ := h x List.mem_cons_self
    have hl' : acc.length + (l.length + 1) ≤ line := hl
    rw [lcL, if_pos hc, h1]
    simp only [h2, truth_bl]
    cases hp : p x with
    | true =>
      simp only [h3 hp]
      rw [if_pos (by omega), lcL_map hc l _ (by rw [List.length_append, List.length_singleton]; omega) fun y hy => h y (List.mem_cons_of_mem _ hy), List.filter_cons_of_pos hp]
      simp
    | false =>
      simp only []
      rw [lcL_map hc l _ (by omega) fun y hy => h y (List.mem_cons_of_mem _ hy), List.filter_cons_of_neg (by rw [hp]; decide)]
theorem lcL_all {chk : St → Prop} {tg : Tg} {c e : Env → St → R W} {env : Env} {s : St} {f : W → W} (hc : chk s) (l : List W) (hl : l.length ≤ line)
    (h : ∀ x ∈ l, ∃ e', setTg tg x env = some e' ∧ c e' s = .ok (.bl true) s ∧ e e' s = .ok (f x) s) : lcL chk tg c e env l [] s = .ok (l.map f) s := by
  have z := lcL_map (p := fun _ => true) (f := f) hc l [] (by simpa using hl) fun x hx => by
    obtain ⟨e', h1, h2, h3⟩ := h x hx
    exact ⟨e', h1, h2, fun _ => h3⟩
  rw [List.filter_eq_self.mpr (fun _ _ => rfl), List.nil_append] at z
  exact z
/-! ### == of data with itself -/
mutual
theorem eqv_self : ∀ {d : Nat} {w : W}, dat d w = true → eqv w w = true
  | _, .non, _ => by simp only [eqv]
  | _, .bl b, _ => by simp only [eqv, beq_self_eq_true]
  | _, .int i, _ => by simp only [eqv, beq_self_eq_true]
  | _, .str s, _ => by simp only [eqv, beq_self_eq_true]
  | 0, .tup l, h => by simp [dat] at h
  | 0, .lst l, h => by simp [dat] at h
  | d + 1, .tup l, h => by simp only [eqv]; exact eqvL_self (d := d) (by simpa only [dat] using h)
  | d + 1, .lst l, h => by simp only [eqv]; exact eqvL_self (d := d) (by simpa only [dat] using h)
  | _, .dct _ _, h => by simp [dat] at h
  | _, .ref _, h => by simp [dat] at h
  | _, .exn _ _, h => by simp [dat] at h
theorem eqvL_self : ∀ {d : Nat} {l : List W}, datL d l = true → eqvL l l = true
  | _, [], _ => by simp only [eqvL]
  | d, x :: r, h => by
    simp only [datL, Bool.and_eq_true] at h
    simp only [eqvL, eqv_self h.1, eqvL_self h.2, Bool.and_self]
end
theorem dat_tup {d : Nat} {l : List W} : dat (d + 1) (.tup l) = datL d l := by simp only [dat]
theorem dat_lst {d : Nat} {l : List W} : dat (d + 1) (.lst l) = datL d l := by simp only [dat]
theorem datL_cons {d : Nat} {x : W} {l : List W} : datL d (x :: l) = (dat d x && datL d l) := by simp only [datL]
theorem datL_nil {d : Nat} : datL d [] = true := by simp only [datL]
theorem dat_int {d : Nat} {i : Int} : dat d (.int i) = true := by simp only [dat]
theorem dat_str {d : Nat} {l : List Nat} (h : ∀ x ∈ l, x < 128) : dat d (.str l) = true := by
  unfold dat
  simp only [List.all_eq_true, decide_eq_true_eq]
  intro x hx
  have := h x hx
  omega
theorem datL_map {α : Type} {f : α → W} {d : Nat} : ∀ {l : List α}, (∀ x ∈ l, dat d (f x) = true) → datL d (l.map f) = true
  | [], _ => by simp [datL]
  | x :: r, h => by
    simp only [List.map_cons, datL, Bool.and_eq_true]
    exact ⟨h x List.mem_cons_self, datL_map fun y hy => h y (List.mem_cons_of_mem _ hy)⟩
theorem inR_ref {st : St} {n : Nat} {x : W} {l : List W} (e : st[n]? = some (.lst l)) (hx : dat 60 x = true) (hl : datL 59 l = true) (hs : ∀ s, x ≠ .str s) (hr : ∀ n, x ≠ .ref n) : inR st x (.ref n) = some (l.any fun z => eqv z x) := by
  have e1 : listOf st (.ref n) = some l := by
    show (match st[n]? with
      | some (.lst l) => some l
      | _ => none) = _
    rw [e]
  have e2 : seen st x = x := by
    cases x <;> first | rfl | exact absurd rfl (hr _)
  have e3 : inR st x (.ref n) = (match listOf st (.ref n) with
    | some l => if dat 60 (seen st x) = true ∧ datL 59 l = true then some (l.any fun z => eqv z (seen st x)) else none
    | none => (match dictOf st (.ref n) with
      | some d => if keyOk d.1 x = true then some (lookD d.2 x).isSome else none
      | none => none)) := by
    cases x <;> first | rfl | exact absurd rfl (hs _)
  rw [e3, e1, e2]
  exact if_pos ⟨hx, hl⟩
theorem append_ok {st : St} {n : Nat} {l : List W} {y : W} (e : st[n]? = some (.lst l)) (h : l.length < line) : mAppend st (.ref n) [y] = .ok .non (st.set n (.lst (l ++ [y]))) := by
  show (match st[n]? with
    | some (.lst l) => if l.length < line then R.ok W.non (st.set n (.lst (l ++ [y]))) else .bad
    | _ => .bad) = _
  rw [e]
  exact if_pos h
mutual
theorem frz_dat {ob : Nat → Option W} : ∀ {d : Nat} {w : W}, dat d w = true → frz ob w = some w
  | _, .non, _ => by simp only [frz]
  | _, .bl b, _ => by simp only [frz]
  | _, .int i, _ => by simp only [frz]
  | _, .str s, _ => by simp only [frz]
  | 0, .tup l, h => by simp [dat] at h
  | 0, .lst l, h => by simp [dat] at h
  | d + 1, .tup l, h => by
    simp only [frz]
    rw [frzL_dat (d := d) (by simpa only [dat] using h)]; rfl
  | d + 1, .lst l, h => by
    simp only [frz]
    rw [frzL_dat (d := d) (by simpa only [dat] using h)]; rfl
  | _, .dct _ _, h => by simp [dat] at h
  | _, .ref _, h => by simp [dat] at h
  | _, .exn _ _, h => by simp [dat] at h
theorem frzL_dat {ob : Nat → Option W} : ∀ {d : Nat} {l : List W}, datL d l = true → frzL ob l = some l
  | _, [], _ => by simp only [frzL]
  | d, x :: r, h => by
    simp only [datL, Bool.and_eq_true] at h
    simp only [frzL, frz_dat h.1, frzL_dat h.2]
end
/-- a pure def gives back a list that it made -/
theorem fin_lst {s2 s : St} {n d : Nat} {l : List W} (ht : s2.take s.length = s) (hn : s.length ≤ n) (e : s2[n]? = some (.lst l)) (h : datL d l = true) : fin .pure s (.ret (.ref n) s2) = .ok (.lst l) s := by
  unfold fin
  dsimp only
  rw [if_pos ht]
  have e1 : freeze s2 s.length (.ref n) = some (.lst l) := by
    unfold freeze
    simp only [frz]
    unfold obj
    rw [if_neg (by omega), e]
    dsimp only
    rw [frzL_dat h]; rfl
  rw [e1]
/-- .. or data -/
theorem fin_dat {s2 s : St} {d : Nat} {w : W} (ht : s2.take s.length = s) (h : dat d w = true) : fin .pure s (.ret w s2) = .ok w s := by
  unfold fin
  dsimp only
  rw [if_pos ht]
  have e1 : freeze s2 s.length w = some w := frz_dat h
  rw [e1]
theorem eqR_lst {st : St} {a b : List W} (ha : datL 59 a = true) (hb : datL 59 b = true) : eqR st (.lst a) (.lst b) = some (eqvL a b) := by
  have e : eqR st (.lst a) (.lst b) = some (eqv (.lst a) (.lst b)) := by
    simp only [eqR, seen]
    exact if_pos ⟨by simpa only [dat] using ha, by simpa only [dat] using hb⟩
  rw [e]
  simp only [eqv]
theorem eqR_tup {st : St} {a b : List W} (ha : datL 59 a = true) (hb : datL 59 b = true) : eqR st (.tup a) (.tup b) = some (eqvL a b) := by
  have e : eqR st (.tup a) (.tup b) = some (eqv (.tup a) (.tup b)) := by
    simp only [eqR, seen]
    exact if_pos ⟨by simpa only [dat] using ha, by simpa only [dat] using hb⟩
  rw [e]
  simp only [eqv]
/-! ### fractions: a top, a bottom; the lowest terms of t, b -/
def gs (t b : Int) : Int := if b < 0 then -(Int.gcd t b : Int) else Int.gcd t b
def lp_ (t b : Int) : Int := t.fdiv (gs t b)
def lq_ (t b : Int) : Int := b.fdiv (gs t b)
theorem gs_abs (t b : Int) : (gs t b).natAbs = Int.gcd t b := by unfold gs; split <;> simp
theorem gs_ne {t b : Int} (h : b ≠ 0) : gs t b ≠ 0 := by
  have : Int.gcd t b ≠ 0 := fun e => h (Int.gcd_eq_zero_iff.mp e).2
  intro e
  have := gs_abs t b
  rw [e] at this; simp at this; omega
theorem gs_t (t b : Int) : gs t b ∣ t := by
  refine Int.natAbs_dvd_natAbs.mp ?_
  rw [gs_abs]
  have := Int.natAbs_dvd_natAbs.mpr (Int.gcd_dvd_left t b)
  simpa using this
theorem gs_b (t b : Int) : gs t b ∣ b := by
  refine Int.natAbs_dvd_natAbs.mp ?_
  rw [gs_abs]
  have := Int.natAbs_dvd_natAbs.mpr (Int.gcd_dvd_right t b)
  simpa using this
theorem fdiv_mul {a d : Int} (h : d ∣ a) (hd : d ≠ 0) : a.fdiv d * d = a := by
  obtain ⟨c, rfl⟩ := h
  rw [Int.mul_comm d c, Int.mul_fdiv_cancel _ hd]
theorem lp_mul {t b : Int} (h : b ≠ 0) : lp_ t b * gs t b = t := fdiv_mul (gs_t t b) (gs_ne h)
theorem lq_mul {t b : Int} (h : b ≠ 0) : lq_ t b * gs t b = b := fdiv_mul (gs_b t b) (gs_ne h)
theorem lq_pos {t b : Int} (h : b ≠ 0) : 0 < lq_ t b := by
  have e := lq_mul (t := t) h
  have n := gs_ne (t := t) h
  by_cases hb : b < 0
  · have g0 : gs t b < 0 := by
      have : gs t b = -(Int.gcd t b : Int) := if_pos hb
      omega
    by_cases hq : 0 < lq_ t b
    · exact hq
    · have := Int.mul_nonneg_of_nonpos_of_nonpos (a := lq_ t b) (b := gs t b) (by omega) (by omega)
      omega
  · have g0 : 0 < gs t b := by
      have : gs t b = (Int.gcd t b : Int) := if_neg hb
      omega
    by_cases hq : 0 < lq_ t b
    · exact hq
    · have := Int.mul_nonpos_of_nonpos_of_nonneg (a := lq_ t b) (b := gs t b) (by omega) (by omega)
      omega
theorem low_gcd {t b : Int} (h : b ≠ 0) : Int.gcd (lp_ t b) (lq_ t b) = 1 := by
  have e1 := lp_mul (t := t) h
  have e2 := lq_mul (t := t) h
  have e3 : Int.gcd (lp_ t b * gs t b) (lq_ t b * gs t b) = Int.gcd (lp_ t b) (lq_ t b) * (gs t b).natAbs := Int.gcd_mul_right _ _ _
  rw [e1, e2, gs_abs] at e3
  have : 0 < Int.gcd t b := Nat.pos_of_ne_zero fun e => h (Int.gcd_eq_zero_iff.mp e).2
  exact (Nat.mul_right_cancel this (by rw [Nat.one_mul]; exact e3)).symm
theorem low_cross {t b : Int} (h : b ≠ 0) : lp_ t b * b = t * lq_ t b := by
  have e1 := lp_mul (t := t) h
  have e2 := lq_mul (t := t) h
  calc lp_ t b * b = lp_ t b * (lq_ t b * gs t b) := by rw [e2]
    _ = (lp_ t b * gs t b) * lq_ t b := by rw [Int.mul_comm (lq_ t b), Int.mul_assoc]
    _ = t * lq_ t b := by rw [e1]
theorem abs_le_mul {a d : Int} (h : d ≠ 0) : a.natAbs ≤ (a * d).natAbs := by
  rw [Int.natAbs_mul]
  exact Nat.le_mul_of_pos_right _ (by omega)
theorem lp_abs {t b : Int} (h : b ≠ 0) : (lp_ t b).natAbs ≤ t.natAbs := by
  have := abs_le_mul (a := lp_ t b) (gs_ne (t := t) h)
  rwa [lp_mul h] at this
theorem lq_abs {t b : Int} (h : b ≠ 0) : (lq_ t b).natAbs ≤ b.natAbs := by
  have := abs_le_mul (a := lq_ t b) (gs_ne (t := t) h)
  rwa [lq_mul h] at this
theorem gs_exact {p q m : Int} (hq : 0 < q) (hg : Int.gcd p q = 1) (hm : m ≠ 0) : gs (p * m) (q * m) = m := by
  unfold gs
  have e : Int.gcd (p * m) (q * m) = m.natAbs := by rw [Int.gcd_mul_right, hg, Nat.one_mul]
  rw [e]
  by_cases h : m < 0
  · have : q * m < 0 := Int.mul_neg_of_pos_of_neg hq h
    rw [if_pos this]; omega
  · have : 0 < q * m := Int.mul_pos hq (by omega)
    rw [if_neg (by omega)]; omega
theorem low_exact {p q m : Int} (hq : 0 < q) (hg : Int.gcd p q = 1) (hm : m ≠ 0) : lp_ (p * m) (q * m) = p ∧ lq_ (p * m) (q * m) = q := by
  unfold lp_ lq_
  rw [gs_exact hq hg hm]
  exact ⟨Int.mul_fdiv_cancel _ hm, Int.mul_fdiv_cancel _ hm⟩
theorem cop_dvd {a b d : Int} (h : a ∣ b * d) (g : Int.gcd a b = 1) : a ∣ d := by
  refine Int.natAbs_dvd_natAbs.mp ?_
  have h2 : a.natAbs ∣ b.natAbs * d.natAbs := by rw [← Int.natAbs_mul]; exact Int.natAbs_dvd_natAbs.mpr h
  exact Nat.Coprime.dvd_of_dvd_mul_left g h2
/-- lowest terms are alone -/
theorem low_eq {p q r t : Int} (hq : 0 < q) (ht : 0 < t) (h1 : Int.gcd p q = 1) (h2 : Int.gcd r t = 1) (h : p * t = r * q) : p = r ∧ q = t := by
  have d1 : q ∣ t := by
    have : q ∣ p * t := ⟨r, by rw [h, Int.mul_comm]⟩
    exact cop_dvd this (by rw [Int.gcd_comm]; exact h1)
  have d2 : t ∣ q := by
    have : t ∣ r * q := ⟨p, by rw [← h, Int.mul_comm]⟩
    exact cop_dvd this (by rw [Int.gcd_comm]; exact h2)
  have e : q = t := Int.dvd_antisymm (by omega) (by omega) d1 d2
  subst e
  exact ⟨Int.eq_of_mul_eq_mul_right (by omega) h, rfl⟩
theorem low_same {t b t' b' : Int} (hb : b ≠ 0) (hb' : b' ≠ 0) (h : t * b' = t' * b) : lp_ t b = lp_ t' b' ∧ lq_ t b = lq_ t' b' := by
  refine low_eq (lq_pos hb) (lq_pos hb') (low_gcd hb) (low_gcd hb') ?_
  have e1 := low_cross (t := t) hb
  have e2 := low_cross (t := t') hb'
  have hbb : b * b' ≠ 0 := Int.mul_ne_zero hb hb'
  refine Int.eq_of_mul_eq_mul_right hbb ?_
  calc lp_ t b * lq_ t' b' * (b * b') = (lp_ t b * b) * (lq_ t' b' * b') := by simp only [Int.mul_assoc, Int.mul_comm, Int.mul_left_comm]
    _ = (t * lq_ t b) * (lq_ t' b' * b') := by rw [e1]
    _ = (t * b') * (lq_ t b * lq_ t' b') := by simp only [Int.mul_assoc, Int.mul_comm, Int.mul_left_comm]
    _ = (t' * b) * (lq_ t b * lq_ t' b') := by rw [h]
    _ = (t' * lq_ t' b') * (lq_ t b * b) := by simp only [Int.mul_assoc, Int.mul_comm, Int.mul_left_comm]
    _ = (lp_ t' b' * b') * (lq_ t b * b) := by rw [e2]
    _ = lp_ t' b' * lq_ t b * (b * b') := by simp only [Int.mul_assoc, Int.mul_comm, Int.mul_left_comm]
end Px

set_option linter.all false
set_option maxRecDepth 100000
set_option maxHeartbeats 0
/-! Px15: defs that stand in many of the laws' texts, and what they reckon. -/
namespace Px
theorem ixS {s : St} {l : List Nat} {i : Int} (h : 0 ≤ i) (h2 : i < l.length) (h3 : l.length ≤ line) : ixW s (.str l) (.int i) = .ok (.str [l.getD i.toNat 0]) s := by
  have e : l[i.toNat]? = some (l.getD i.toNat 0) := by
    rw [List.getD_eq_getElem?_getD, List.getElem?_eq_getElem (by omega)]; rfl
  show (if l.length ≤ line then (match ixL l i with
    | some c => R.ok (W.str [c]) s
    | none => R.bad) else R.bad) = _
  rw [if_pos h3, ixL_pos h, e]
theorem ixI {s : St} {l : List Int} {i : Int} (h : 0 ≤ i) (h2 : i < l.length) : ixW s (.lst (l.map .int)) (.int i) = .ok (.int (l.getD i.toNat 0)) s := by
  have e : l[i.toNat]? = some (l.getD i.toNat 0) := by
    rw [List.getD_eq_getElem?_getD, List.getElem?_eq_getElem (by omega)]; rfl
  rw [ix_lst, ixL_pos h, List.getElem?_map, e]; rfl
theorem ixG {s : St} {l : List W} {i : Int} {w : W} (h : 0 ≤ i) (e : l[i.toNat]? = some w) : ixW s (.lst l) (.int i) = .ok w s := by
  rw [ix_lst, ixL_pos h, e]; rfl
theorem fmod_bd (a : Int) {b : Int} (h : 0 < b) : 0 ≤ a.fmod b ∧ a.fmod b < b := by
  rw [Int.fmod_eq_emod_of_nonneg _ (by omega)]
  exact ⟨Int.emod_nonneg _ (by omega), Int.emod_lt_of_pos _ h⟩
theorem fdiv_bd {a b : Int} (ha : 0 ≤ a) (h : 0 < b) : 0 ≤ a.fdiv b ∧ a.fdiv b ≤ a := by
  rw [Int.fdiv_eq_ediv_of_nonneg _ (by omega)]
  exact ⟨Int.ediv_nonneg ha (by omega), Int.ediv_le_self _ ha⟩
theorem bd_of {n : Nat} {x : Int} {m : Nat} (h1 : -(m : Int) ≤ x) (h2 : x ≤ m) (h : m < 2 ^ n) : Bd n x := by unfold Bd; omega
theorem bd9000 {x : Int} (h1 : -(10 ^ 60 : Nat) ≤ x) (h2 : x ≤ (10 ^ 60 : Nat)) : Bd 9000 x := (bd_of (n := 200) h1 h2 (by decide)).mono (by decide)
theorem bd5 {x : Int} (h1 : -(10 ^ 60 : Nat) ≤ x) (h2 : x ≤ (10 ^ 60 : Nat)) : Bd 100000 x := (bd_of (n := 200) h1 h2 (by decide)).mono (by decide)
theorem divS {st : St} {a b : Int} (h : 0 < b) (h2 : b ≤ (10 ^ 60 : Nat)) : opDiv st (.int a) (.int b) = .ok (.int (a.fdiv b)) st := divI (by omega) (bd9000 (by omega) h2)
theorem modS {st : St} {a b : Int} (h : 0 < b) : opMod st (.int a) (.int b) = .ok (.int (a.fmod b)) st := modI (by omega)
theorem mulS {st : St} {a b : Int} (h1 : -(10 ^ 60 : Nat) ≤ a) (h2 : a ≤ (10 ^ 60 : Nat)) (h3 : -(10 ^ 60 : Nat) ≤ b) (h4 : b ≤ (10 ^ 60 : Nat)) : opMul st (.int a) (.int b) = .ok (.int (a * b)) st := mulI (bd5 h1 h2) (bd5 h3 h4)

/-! ### the script's cells -/
def Ccell : Ss :=
  .cons (.ite (.op .lt (.v 1) (.bi true .len (.cons (.v 0) .nil))) (.cons (.ret (.ix (.v 0) (.v 1))) .nil) (.nil)) <|
  .cons (.ret (.k (.int 0))) .nil
def cellI (ns : List Int) (i : Nat) : Int := (ns[i]?).getD 0
section
variable {g : Gd} {i j : Nat}
theorem cell_ok (h : g.fns[i]? = some ⟨2, 2, Ccell, .raw⟩) (k : Nat) (ns : List Int) (n : Nat) (s : St) : callF g (k + 1) i [.lst (ns.map .int), .int n] s = .ok (.int (cellI ns n)) s := by
  rw [call_eq h rfl]
  by_cases hl : (n : Int) < (ns.length : Int)
  · have e : ns[n]? = some ns[n] := List.getElem?_eq_getElem (by omega)
    simp [Ccell, hl, ixL_pos (show (0 : Int) ≤ n by omega), e, cellI]
  · have e : ns[n]? = none := List.getElem?_eq_none (by omega)
    simp [Ccell, hl, e, cellI]
/-! ### the greatest divisor, lowest terms -/
def Cdiv : Ss :=
  .cons (.set 2 (.bi true .abs (.cons (.v 0) .nil))) <|
  .cons (.set 3 (.bi true .abs (.cons (.v 1) .nil))) <|
  .cons (.whl (.op .gt (.v 3) (.k (.int 0))) (.cons (.set 4 (.op .mod (.v 2) (.v 3))) <|
  .cons (.set 2 (.v 3)) <|
  .cons (.set 3 (.v 4)) .nil)) <|
  .cons (.ret (.v 2)) .nil
theorem gcd_step {a b : Nat} (hb : b ≠ 0) : (a : Int).fmod b = ((a % b : Nat) : Int) ∧ 0 < b ∧ (b : Int) ≠ 0 := by
  refine ⟨?_, by omega, by omega⟩
  rw [Int.fmod_eq_emod_of_nonneg _ (by omega)]; rfl
theorem gcd_loop {cl mkc mt xf xfl} {s : St} {p q : Option W} : ∀ (n a b : Nat) (x : Option W), b ≤ n → ∃ x', lp (turn cl mkc mt xf xfl (.op .gt (.v 3) (.k (.int 0))) (.cons (.set 4 (.op .mod (.v 2) (.v 3))) <| .cons (.set 2 (.v 3)) <| .cons (.set 3 (.v 4)) .nil)) ([p, q, some (.int a), some (.int b), x], s) = some (.nx [p, q, some (.int (Nat.gcd a b)), some (.int 0), x'] s) := by
  intro n
  induction n with
  | zero =>
    intro a b x h
    have : b = 0 := by omega
    subst this
    exact ⟨x, lp_inr (by simp [turn])⟩
  | succ n ih =>
    intro a b x h
    by_cases hb : b = 0
    · subst hb
      exact ⟨x, lp_inr (by simp [turn])⟩
    · have hm : a % b < b := Nat.mod_lt _ (by omega)
      obtain ⟨x', e⟩ := ih b (a % b) (some (.int ((a % b : Nat) : Int))) (by omega)
      refine ⟨x', ?_⟩
      rw [Nat.gcd_comm a b, Nat.gcd_rec b a, Nat.gcd_comm (a % b) b]
      refine lp_inl ?_ e
      obtain ⟨hf, hb4, hb3⟩ := gcd_step (a := a) hb
      simp [turn, hb4, modI hb3, hf]
theorem div_sp (h : g.fns[i]? = some ⟨2, 5, Cdiv, .raw⟩) (k : Nat) (a b : Int) (s : St) : callF g (k + 1) i [.int a, .int b] s = .ok (.int (Int.gcd a b)) s := by
  rw [call_eq h rfl]
  obtain ⟨x', e⟩ := gcd_loop (cl := callF g k) (mkc := mkF g k) (mt := mtF g) (xf := g.xf) (xfl := g.xfl) (s := s) (p := some (.int a)) (q := some (.int b)) b.natAbs a.natAbs b.natAbs none (Nat.le_refl _)
  simp [Cdiv, e, Int.gcd]
def Clow (j : Nat) : Ss :=
  .cons (.set 2 (.call j (.cons (.v 0) (.cons (.v 1) .nil)) [])) <|
  .cons (.ite (.op .lt (.v 1) (.k (.int 0))) (.cons (.set 2 (.op .sub (.k (.int 0)) (.v 2))) .nil) (.nil)) <|
  .cons (.ret (.tup (.cons (.op .fdiv (.v 0) (.v 2)) (.cons (.op .fdiv (.v 1) (.v 2)) .nil)))) .nil
theorem gs_le {t b : Int} (h : b ≠ 0) : (gs t b).natAbs ≤ b.natAbs := by
  rw [gs_abs]
  exact Nat.le_of_dvd (by omega) (by simpa using Int.natAbs_dvd_natAbs.mpr (Int.gcd_dvd_right t b))
/-- a fraction as a value -/
def fr (p q : Int) : W := .tup [.int p, .int q]
theorem low_sp (h : g.fns[j]? = some ⟨2, 5, Cdiv, .raw⟩) (h2 : g.fns[i]? = some ⟨2, 3, Clow j, .raw⟩) (k : Nat) {t b : Int} (s : St) (hb0 : b ≠ 0) (hb : Bd 9000 b) : callF g (k + 2) i [.int t, .int b] s = .ok (fr (lp_ t b) (lq_ t b)) s := by
  rw [call_eq h2 rfl]
  have hn := gs_ne (t := t) hb0
  have hbd : Bd 9000 (gs t b) := hb.le (gs_le hb0)
  by_cases hl : b < 0
  · have e : gs t b = -(Int.gcd t b : Int) := by unfold gs; rw [if_pos hl]
    rw [e] at hn hbd
    simp [Clow, div_sp h, hl, divI hn hbd, lp_, lq_, e, fr]
  · have e : gs t b = (Int.gcd t b : Int) := by unfold gs; rw [if_neg hl]
    rw [e] at hn hbd
    simp [Clow, div_sp h, hl, divI hn hbd, lp_, lq_, e, fr]
/-- a fraction in lowest terms, of n bits at most -/
structure Fr (n : Nat) (p q : Int) : Prop where
  pos : 0 < q
  one : Int.gcd p q = 1
  b1 : Bd n p
  b2 : Bd n q
theorem Fr.mono {m n : Nat} {p q : Int} (h : Fr m p q) (l : m ≤ n) : Fr n p q := ⟨h.pos, h.one, h.b1.mono l, h.b2.mono l⟩
theorem Fr.low {n : Nat} {t b : Int} (h : b ≠ 0) (h1 : Bd n t) (h2 : Bd n b) : Fr n (lp_ t b) (lq_ t b) :=
  ⟨lq_pos h, low_gcd h, h1.le (lp_abs h), h2.le (lq_abs h)⟩
def Cplus (j : Nat) : Ss :=
  .cons (.ret (.call j (.cons (.op .add (.op .mul (.ix (.v 0) (.k (.int 0))) (.ix (.v 1) (.k (.int 1)))) (.op .mul (.ix (.v 1) (.k (.int 0))) (.ix (.v 0) (.k (.int 1))))) (.cons (.op .mul (.ix (.v 0) (.k (.int 1))) (.ix (.v 1) (.k (.int 1)))) .nil)) [])) .nil
def Cminus (j : Nat) : Ss :=
  .cons (.ret (.call j (.cons (.op .sub (.op .mul (.ix (.v 0) (.k (.int 0))) (.ix (.v 1) (.k (.int 1)))) (.op .mul (.ix (.v 1) (.k (.int 0))) (.ix (.v 0) (.k (.int 1))))) (.cons (.op .mul (.ix (.v 0) (.k (.int 1))) (.ix (.v 1) (.k (.int 1)))) .nil)) [])) .nil
def Ctimes (j : Nat) : Ss :=
  .cons (.ret (.call j (.cons (.op .mul (.ix (.v 0) (.k (.int 0))) (.ix (.v 1) (.k (.int 0)))) (.cons (.op .mul (.ix (.v 0) (.k (.int 1))) (.ix (.v 1) (.k (.int 1)))) .nil)) [])) .nil
def Cover (j : Nat) : Ss :=
  .cons (.ite (.op .eq (.ix (.v 1) (.k (.int 0))) (.k (.int 0))) (.cons (.rse 0 (.nil)) .nil) (.nil)) <|
  .cons (.ret (.call j (.cons (.op .mul (.ix (.v 0) (.k (.int 0))) (.ix (.v 1) (.k (.int 1)))) (.cons (.op .mul (.ix (.v 0) (.k (.int 1))) (.ix (.v 1) (.k (.int 0)))) .nil)) [])) .nil
def Cunder : Ss :=
  .cons (.ret (.op .lt (.op .mul (.ix (.v 0) (.k (.int 0))) (.ix (.v 1) (.k (.int 1)))) (.op .mul (.ix (.v 1) (.k (.int 0))) (.ix (.v 0) (.k (.int 1)))))) .nil
/-- what a def gives of lowest terms -/
def LowSp (g : Gd) (j : Nat) : Prop := ∀ (k : Nat) (t b : Int) (s : St), b ≠ 0 → Bd 9000 b → callF g (k + 2) j [.int t, .int b] s = .ok (fr (lp_ t b) (lq_ t b)) s
theorem plus_sp (L : LowSp g j) (h : g.fns[i]? = some ⟨2, 2, Cplus j, .raw⟩) (k : Nat) {p q r t : Int} (s : St) (h1 : Bd 4000 p) (h2 : Bd 4000 q) (h3 : Bd 4000 r) (h4 : Bd 4000 t) (n : q ≠ 0) (n' : t ≠ 0) :
    callF g (k + 3) i [fr p q, fr r t] s = .ok (fr (lp_ (p * t + r * q) (q * t)) (lq_ (p * t + r * q) (q * t))) s := by
  rw [call_eq h rfl]
  have m1 : opMul s (.int p) (.int t) = .ok (.int (p * t)) s := mulI (h1.mono (by decide)) (h4.mono (by decide))
  have m2 : opMul s (.int r) (.int q) = .ok (.int (r * q)) s := mulI (h3.mono (by decide)) (h2.mono (by decide))
  have m3 : opMul s (.int q) (.int t) = .ok (.int (q * t)) s := mulI (h2.mono (by decide)) (h4.mono (by decide))
  simp [Cplus, fr, m1, m2, m3, L k _ _ s (Int.mul_ne_zero n n') ((h2.mul h4).mono (by decide))]
theorem minus_sp (L : LowSp g j) (h : g.fns[i]? = some ⟨2, 2, Cminus j, .raw⟩) (k : Nat) {p q r t : Int} (s : St) (h1 : Bd 4000 p) (h2 : Bd 4000 q) (h3 : Bd 4000 r) (h4 : Bd 4000 t) (n : q ≠ 0) (n' : t ≠ 0) :
    callF g (k + 3) i [fr p q, fr r t] s = .ok (fr (lp_ (p * t - r * q) (q * t)) (lq_ (p * t - r * q) (q * t))) s := by
  rw [call_eq h rfl]
  have m1 : opMul s (.int p) (.int t) = .ok (.int (p * t)) s := mulI (h1.mono (by decide)) (h4.mono (by decide))
  have m2 : opMul s (.int r) (.int q) = .ok (.int (r * q)) s := mulI (h3.mono (by decide)) (h2.mono (by decide))
  have m3 : opMul s (.int q) (.int t) = .ok (.int (q * t)) s := mulI (h2.mono (by decide)) (h4.mono (by decide))
  simp [Cminus, fr, m1, m2, m3, L k _ _ s (Int.mul_ne_zero n n') ((h2.mul h4).mono (by decide))]
theorem times_sp (L : LowSp g j) (h : g.fns[i]? = some ⟨2, 2, Ctimes j, .raw⟩) (k : Nat) {p q r t : Int} (s : St) (h1 : Bd 4000 p) (h2 : Bd 4000 q) (h3 : Bd 4000 r) (h4 : Bd 4000 t) (n : q ≠ 0) (n' : t ≠ 0) :
    callF g (k + 3) i [fr p q, fr r t] s = .ok (fr (lp_ (p * r) (q * t)) (lq_ (p * r) (q * t))) s := by
  rw [call_eq h rfl]
  have m1 : opMul s (.int p) (.int r) = .ok (.int (p * r)) s := mulI (h1.mono (by decide)) (h3.mono (by decide))
  have m3 : opMul s (.int q) (.int t) = .ok (.int (q * t)) s := mulI (h2.mono (by decide)) (h4.mono (by decide))
  simp [Ctimes, fr, m1, m3, L k _ _ s (Int.mul_ne_zero n n') ((h2.mul h4).mono (by decide))]
theorem over_sp (L : LowSp g j) (h : g.fns[i]? = some ⟨2, 2, Cover j, .raw⟩) (k : Nat) {p q r t : Int} (s : St) (h1 : Bd 4000 p) (h2 : Bd 4000 q) (h3 : Bd 4000 r) (h4 : Bd 4000 t) (n : q ≠ 0) (n' : r ≠ 0) :
    callF g (k + 3) i [fr p q, fr r t] s = .ok (fr (lp_ (p * t) (q * r)) (lq_ (p * t) (q * r))) s := by
  rw [call_eq h rfl]
  have m1 : opMul s (.int p) (.int t) = .ok (.int (p * t)) s := mulI (h1.mono (by decide)) (h4.mono (by decide))
  have m3 : opMul s (.int q) (.int r) = .ok (.int (q * r)) s := mulI (h2.mono (by decide)) (h3.mono (by decide))
  simp [Cover, fr, m1, m3, n', L k _ _ s (Int.mul_ne_zero n n') ((h2.mul h3).mono (by decide))]
theorem under_sp (h : g.fns[i]? = some ⟨2, 2, Cunder, .raw⟩) (k : Nat) {p q r t : Int} (s : St) (h1 : Bd 4000 p) (h2 : Bd 4000 q) (h3 : Bd 4000 r) (h4 : Bd 4000 t) : callF g (k + 1) i [fr p q, fr r t] s = .ok (.bl (decide (p * t < r * q))) s := by
  rw [call_eq h rfl]
  have m1 : opMul s (.int p) (.int t) = .ok (.int (p * t)) s := mulI (h1.mono (by decide)) (h4.mono (by decide))
  have m2 : opMul s (.int r) (.int q) = .ok (.int (r * q)) s := mulI (h3.mono (by decide)) (h2.mono (by decide))
  simp [Cunder, fr, m1, m2]
/-! ### the law's own lowest terms (the bottom above 0) -/
def Clow2 : Ss :=
  .cons (.par [2, 3] (.cons (.bi true .abs (.cons (.v 0) .nil)) (.cons (.v 1) .nil))) <|
  .cons (.whl (.op .gt (.v 3) (.k (.int 0))) (.cons (.par [2, 3] (.cons (.v 3) (.cons (.op .mod (.v 2) (.v 3)) .nil))) .nil)) <|
  .cons (.ret (.tup (.cons (.op .fdiv (.v 0) (.v 2)) (.cons (.op .fdiv (.v 1) (.v 2)) .nil)))) .nil
theorem gcd_loop2 {cl mkc mt xf xfl} {s : St} {p q : Option W} : ∀ (n a b : Nat), b ≤ n → lp (turn cl mkc mt xf xfl (.op .gt (.v 3) (.k (.int 0))) (.cons (.par [2, 3] (.cons (.v 3) (.cons (.op .mod (.v 2) (.v 3)) .nil))) .nil)) ([p, q, some (.int a), some (.int b)], s) = some (.nx [p, q, some (.int (Nat.gcd a b)), some (.int 0)] s) := by
  intro n
  induction n with
  | zero =>
    intro a b h
    have : b = 0 := by omega
    subst this
    exact lp_inr (by simp [turn])
  | succ n ih =>
    intro a b h
    by_cases hb : b = 0
    · subst hb
      exact lp_inr (by simp [turn])
    · have hm : a % b < b := Nat.mod_lt _ (by omega)
      have e := ih b (a % b) (by omega)
      rw [Nat.gcd_comm a b, Nat.gcd_rec b a, Nat.gcd_comm (a % b) b]
      refine lp_inl ?_ e
      obtain ⟨hf, hb4, hb3⟩ := gcd_step (a := a) hb
      simp [turn, hb4, modI hb3, hf, setMany]
theorem low2_sp (h : g.fns[i]? = some ⟨2, 4, Clow2, .raw⟩) (k : Nat) {t b : Int} (s : St) (hb0 : 0 < b) (hb : Bd 9000 b) : callF g (k + 1) i [.int t, .int b] s = .ok (fr (lp_ t b) (lq_ t b)) s := by
  rw [call_eq h rfl]
  have hn := gs_ne (t := t) (show b ≠ 0 by omega)
  have hbd : Bd 9000 (gs t b) := hb.le (gs_le (by omega))
  have e : gs t b = (Int.gcd t b : Int) := by unfold gs; rw [if_neg (by omega)]
  rw [e] at hn hbd
  have el := gcd_loop2 (cl := callF g k) (mkc := mkF g k) (mt := mtF g) (xf := g.xf) (xfl := g.xfl) (s := s) (p := some (.int t)) (q := some (.int b)) b.natAbs t.natAbs b.natAbs (Nat.le_refl _)
  have eb : (b.natAbs : Int) = b := by omega
  rw [eb] at el
  have ec : ((Nat.gcd t.natAbs b.natAbs : Nat) : Int) = (Int.gcd t b : Int) := rfl
  rw [ec] at el
  simp [Clow2, setMany, el, divI hn hbd, lp_, lq_, e, fr]
/-! ### mixed numbers -/
def Cmixed : Ss :=
  .cons (.set 2 (.op .mod (.v 0) (.k (.int 2147483647)))) <|
  .cons (.ret (.op .mod (.op .mul (.op .mul (.op .add (.op .add (.v 2) (.op .mul (.k (.int 31)) (.v 1))) (.k (.int 1))) (.k (.int 48271))) (.op .add (.op .add (.v 2) (.op .mul (.k (.int 3)) (.v 1))) (.k (.int 7)))) (.k (.int 2147483629)))) .nil
def mixI (c k : Int) : Int := ((c.fmod 2147483647 + 31 * k + 1) * 48271 * (c.fmod 2147483647 + 3 * k + 7)).fmod 2147483629
theorem mixI_bd (c k : Int) : 0 ≤ mixI c k ∧ mixI c k < 2147483629 := fmod_bd _ (by decide)
theorem mixed_sp (h : g.fns[i]? = some ⟨2, 3, Cmixed, .raw⟩) (k : Nat) (c : Int) {n : Int} (s : St) (h0 : 0 ≤ n) (h1 : n ≤ 1000) : callF g (k + 1) i [.int c, .int n] s = .ok (.int (mixI c n)) s := by
  rw [call_eq h rfl]
  have b := fmod_bd c (b := 2147483647) (by decide)
  have q1 := modS (st := s) (a := c) (show (0 : Int) < 2147483647 by decide)
  generalize hz : c.fmod 2147483647 = z at b q1
  have m1 : opMul s (.int 31) (.int n) = .ok (.int (31 * n)) s := mulS (by decide) (by decide) (by omega) (by omega)
  have m2 : opMul s (.int 3) (.int n) = .ok (.int (3 * n)) s := mulS (by decide) (by decide) (by omega) (by omega)
  have m3 : opMul s (.int (z + 31 * n + 1)) (.int 48271) = .ok (.int ((z + 31 * n + 1) * 48271)) s := mulS (by omega) (by omega) (by decide) (by decide)
  have m4 : opMul s (.int ((z + 31 * n + 1) * 48271)) (.int (z + 3 * n + 7)) = .ok (.int ((z + 31 * n + 1) * 48271 * (z + 3 * n + 7))) s := mulS (by omega) (by omega) (by omega) (by omega)
  have q2 := modS (st := s) (a := (z + 31 * n + 1) * 48271 * (z + 3 * n + 7)) (show (0 : Int) < 2147483629 by decide)
  simp [Cmixed, q1, m1, m2, m3, m4, q2, mixI, hz]
/-! ### words -/
def Cword : Ss :=
  .cons (.set 2 (.k (.str [97, 98, 99, 100, 101, 102, 103, 104, 105, 106, 107, 108, 109, 110, 111, 112, 113, 114, 115, 116, 117, 118, 119, 120, 121, 122]))) <|
  .cons (.set 3 (.ix (.lst true (.cons (.k (.int 1)) (.cons (.k (.int 3)) (.cons (.k (.int 5)) (.cons (.k (.int 7)) (.cons (.k (.int 9)) (.cons (.k (.int 11)) (.cons (.k (.int 15)) (.cons (.k (.int 17)) (.cons (.k (.int 19)) (.cons (.k (.int 21)) (.cons (.k (.int 23)) (.cons (.k (.int 25)) .nil))))))))))))) (.op .mod (.op .fdiv (.v 0) (.k (.int 26))) (.k (.int 12))))) <|
  .cons (.set 4 (.op .add (.ix (.v 2) (.op .mod (.op .add (.v 0) (.op .mul (.v 1) (.v 3))) (.k (.int 26)))) (.ix (.k (.str [113, 120, 122])) (.op .mod (.op .fdiv (.v 1) (.k (.int 26))) (.k (.int 3)))))) <|
  .cons (.set 5 (.k (.str []))) <|
  .cons (.for_ (.one 6) (.range (.cons (.op .mod (.op .fdiv (.v 0) (.k (.int 312))) (.k (.int 7))) .nil)) (.cons (.set 5 (.op .add (.v 5) (.ix (.k (.str [113, 120, 122])) (.op .mod (.op .fdiv (.v 0) (.op .add (.k (.int 3)) (.v 6))) (.k (.int 3)))))) .nil)) <|
  .cons (.ite (.op .eq (.op .mod (.op .fdiv (.v 0) (.k (.int 2184))) (.k (.int 2))) (.k (.int 1))) (.cons (.ret (.op .add (.v 5) (.v 4))) .nil) (.nil)) <|
  .cons (.ret (.op .add (.v 4) (.v 5))) .nil
def az : List Nat := [97, 98, 99, 100, 101, 102, 103, 104, 105, 106, 107, 108, 109, 110, 111, 112, 113, 114, 115, 116, 117, 118, 119, 120, 121, 122]
def strideL : List Int := [1, 3, 5, 7, 9, 11, 15, 17, 19, 21, 23, 25]
def azI (i : Int) : Nat := az.getD i.toNat 0
def qxz (i : Int) : Nat := [113, 120, 122].getD i.toNat 0
def strideI (c : Int) : Int := strideL.getD ((c.fdiv 26).fmod 12).toNat 0
def pairL (c k : Int) : List Nat := [azI ((c + k * strideI c).fmod 26), qxz ((k.fdiv 26).fmod 3)]
def moreL (c : Int) (n : Nat) : List Nat := (List.range n).map fun (j : Nat) => qxz ((c.fdiv (3 + j)).fmod 3)
def wordL (c k : Int) : List Nat := if (c.fdiv 2184).fmod 2 = 1 then moreL c ((c.fdiv 312).fmod 7).toNat ++ pairL c k else pairL c k ++ moreL c ((c.fdiv 312).fmod 7).toNat
theorem rng_len (a : Int) (n : Nat) (c : Int) : (rng a n c).length = n := by unfold rng; simp
theorem rng_at {a : Int} {n j : Nat} {c : Int} (h : j < n) : (rng a n c).drop j = .int (a + (j : Int) * c) :: (rng a n c).drop (j + 1) := by
  have hl : j < (rng a n c).length := by rw [rng_len]; exact h
  rw [List.drop_eq_getElem_cons hl]
  congr 1
  simp [rng]
theorem rng_end {a : Int} {n j : Nat} {c : Int} (h : n ≤ j) : (rng a n c).drop j = [] := List.drop_eq_nil_of_le (by rw [rng_len]; exact h)
/-- a walk over range(n) -/
theorem forL_rng {tg : Tg} {body : Env → St → RS} {n : Nat} (I : Nat → Env → St → Prop)
    (step : ∀ j e s, j < n → I j e s → ∃ e' e2 s2, setTg tg (.int j) e = some e' ∧ (body e' s = .nx e2 s2 ∨ body e' s = .ct e2 s2) ∧ I (j + 1) e2 s2) (e : Env) (s : St) (h : I 0 e s) : ∃ e2 s2, forL (fun _ => True) tg body (rng 0 n 1) e s = .nx e2 s2 ∧ I n e2 s2 := by
  have z := forL_to (chk := fun _ => True) (tg := tg) (body := body) (fun l e s => ∃ j, j ≤ n ∧ l = (rng 0 n 1).drop j ∧ I j e s) (fun _ _ _ _ => trivial) (fun x l e s ⟨j, hj, hl, hi⟩ => ?_) (rng 0 n 1) e s ⟨0, Nat.zero_le _, by simp, h⟩
  · obtain ⟨e2, s2, h1, j, hj, hl, hi⟩ := z
    have : j = n := by
      by_cases hlt : j < n
      · rw [rng_at hlt] at hl; cases hl
      · omega
    subst this
    exact ⟨e2, s2, h1, hi⟩
  · have hlt : j < n := by
      by_cases hlt : j < n
      · exact hlt
      · rw [rng_end (by omega)] at hl; cases hl
    rw [rng_at hlt] at hl
    cases hl
    obtain ⟨e', e2, s2, k1, k2, k3⟩ := step j e s hlt hi
    refine ⟨e', e2, s2, ?_, k2, j + 1, hlt, rfl, k3⟩
    have : (0 : Int) + (j : Int) * 1 = j := by omega
    rw [this]
    exact k1
theorem walk_rng {s : Int} (h : small s) (h0 : 0 ≤ s) : walkRange [.int s] = some ⟨rng 0 s.toNat 1, fun _ => True⟩ := if_pos h
theorem small_of {x : Int} (h1 : -(10 ^ 18) ≤ x) (h2 : x ≤ 10 ^ 18) : small x := by unfold small; omega
theorem moreL_succ (c : Int) (n : Nat) : moreL c (n + 1) = moreL c n ++ [qxz ((c.fdiv (3 + n)).fmod 3)] := by
  unfold moreL
  rw [List.range_succ, List.map_append]; rfl
theorem moreL_len (c : Int) (n : Nat) : (moreL c n).length = n := by unfold moreL; simp
theorem qxz_ix {s : St} {i : Int} (h : 0 ≤ i) (h2 : i < 3) : ixW s (.str [113, 120, 122]) (.int i) = .ok (.str [qxz i]) s := ixS h (by simpa using h2) (by decide)
theorem strideI_bd (c : Int) : 1 ≤ strideI c ∧ strideI c ≤ 25 := by
  have b := fmod_bd (c.fdiv 26) (b := 12) (by decide)
  unfold strideI strideL
  generalize (c.fdiv 26).fmod 12 = z at b
  have : z = 0 ∨ z = 1 ∨ z = 2 ∨ z = 3 ∨ z = 4 ∨ z = 5 ∨ z = 6 ∨ z = 7 ∨ z = 8 ∨ z = 9 ∨ z = 10 ∨ z = 11 := by omega
  rcases this with h | h | h | h | h | h | h | h | h | h | h | h <;> subst h <;> decide
theorem addSS {s : St} {a b : List Nat} (h : a.length + b.length ≤ line) : opAdd s (.str a) (.str b) = .ok (.str (a ++ b)) s := if_pos h
theorem word_sp (h : g.fns[i]? = some ⟨2, 7, Cword, .raw⟩) (k : Nat) (c : Int) {n : Int} (s : St) (h0 : 0 ≤ n) (h1 : n ≤ 1000) : callF g (k + 1) i [.int c, .int n] s = .ok (.str (wordL c n)) s := by
  rw [call_eq h rfl]
  have b1 := fmod_bd (c.fdiv 26) (b := 12) (by decide)
  have q1 := divS (st := s) (a := c) (b := 26) (by decide) (by decide)
  have q2 := modS (st := s) (a := c.fdiv 26) (b := 12) (by decide)
  have e1 : ixW s (.lst [.int 1, .int 3, .int 5, .int 7, .int 9, .int 11, .int 15, .int 17, .int 19, .int 21, .int 23, .int 25]) (.int ((c.fdiv 26).fmod 12)) = .ok (.int (strideI c)) s := ixI (l := strideL) b1.1 (by simpa [strideL] using b1.2)
  have sb := strideI_bd c
  have m1 : opMul s (.int n) (.int (strideI c)) = .ok (.int (n * strideI c)) s := mulS (by omega) (by omega) (by omega) (by omega)
  have b2 := fmod_bd (c + n * strideI c) (b := 26) (by decide)
  have q3 := modS (st := s) (a := c + n * strideI c) (b := 26) (by decide)
  have e2 : ixW s (.str az) (.int ((c + n * strideI c).fmod 26)) = .ok (.str [azI ((c + n * strideI c).fmod 26)]) s := ixS b2.1 (by simpa [az] using b2.2) (by decide)
  have q4 := divS (st := s) (a := n) (b := 26) (by decide) (by decide)
  have b3 := fmod_bd (n.fdiv 26) (b := 3) (by decide)
  have q5 := modS (st := s) (a := n.fdiv 26) (b := 3) (by decide)
  have e3 := qxz_ix (s := s) b3.1 b3.2
  have a1 : opAdd s (.str [azI ((c + n * strideI c).fmod 26)]) (.str [qxz ((n.fdiv 26).fmod 3)]) = .ok (.str (pairL c n)) s := addSS (show 2 ≤ line by decide)
  have q6 := divS (st := s) (a := c) (b := 312) (by decide) (by decide)
  have b4 := fmod_bd (c.fdiv 312) (b := 7) (by decide)
  have q7 := modS (st := s) (a := c.fdiv 312) (b := 7) (by decide)
  have w1 := walk_rng (small_of (x := (c.fdiv 312).fmod 7) (by omega) (by omega)) b4.1
  have q8 := divS (st := s) (a := c) (b := 2184) (by decide) (by decide)
  have q9 := modS (st := s) (a := c.fdiv 2184) (b := 2) (by decide)
  obtain ⟨N, hN⟩ : ∃ N, N = ((c.fdiv 312).fmod 7).toNat := ⟨_, rfl⟩
  have hN7 : N ≤ 7 := by omega
  obtain ⟨e', s', hf, x, he, hs⟩ := forL_rng (n := N) (tg := .one 6) (body := evSs (callF g k) (mkF g k) (mtF g) g.xf g.xfl (.cons (.set 5 (.op .add (.v 5) (.ix (.k (.str [113, 120, 122])) (.op .mod (.op .fdiv (.v 0) (.op .add (.k (.int 3)) (.v 6))) (.k (.int 3)))))) .nil)) (fun j e s' => ∃ x, e = [some (.int c), some (.int n), some (.str az), some (.int (strideI c)), some (.str (pairL c n)), some (.str (moreL c j)), x] ∧ s' = s) (fun j e s' hj ⟨x, he, hs⟩ => by
    subst he
    rw [hs]
    have d1 := divS (st := s) (a := c) (b := 3 + (j : Int)) (by omega) (by omega)
    have d2 := modS (st := s) (a := c.fdiv (3 + (j : Int))) (b := 3) (by decide)
    have d3 := fmod_bd (c.fdiv (3 + (j : Int))) (b := 3) (by decide)
    have d4 := qxz_ix (s := s) d3.1 d3.2
    have d5 : opAdd s (.str (moreL c j)) (.str [qxz ((c.fdiv (3 + (j : Int))).fmod 3)]) = .ok (.str (moreL c (j + 1))) s := by
      rw [addSS (by rw [moreL_len]; show j + 1 ≤ 16777216; omega), moreL_succ]
    exact ⟨_, _, s, rfl, .inl (by simp [d1, d2, d4, d5]), some (.int j), rfl, rfl⟩) [some (.int c), some (.int n), some (.str az), some (.int (strideI c)), some (.str (pairL c n)), some (.str []), none] s ⟨none, rfl, rfl⟩
  rw [he, hs] at hf
  have lp : (pairL c n).length = 2 := rfl
  have a2 : opAdd s (.str (moreL c N)) (.str (pairL c n)) = .ok (.str (moreL c N ++ pairL c n)) s := addSS (by rw [moreL_len, lp]; show N + 2 ≤ 16777216; omega)
  have a3 : opAdd s (.str (pairL c n)) (.str (moreL c N)) = .ok (.str (pairL c n ++ moreL c N)) s := addSS (by rw [moreL_len, lp]; show 2 + N ≤ 16777216; omega)
  have eaz : ([97, 98, 99, 100, 101, 102, 103, 104, 105, 106, 107, 108, 109, 110, 111, 112, 113, 114, 115, 116, 117, 118, 119, 120, 121, 122] : List Nat) = az := rfl
  unfold wordL
  rw [← hN]
  simp only [Cword, eaz]
  by_cases hw : (c.fdiv 2184).fmod 2 = 1
  · simp [q1, q2, e1, m1, q3, e2, q4, q5, e3, a1, q6, q7, w1, ← hN, hf, q8, q9, hw, a2]
  · simp [q1, q2, e1, m1, q3, e2, q4, q5, e3, a1, q6, q7, w1, ← hN, hf, q8, q9, hw, a3]
theorem getD_mem {l : List Nat} {n : Nat} (P : Nat → Prop) (h0 : P 0) (h : ∀ x ∈ l, P x) : P (l.getD n 0) := by
  rw [List.getD_eq_getElem?_getD]
  cases e : l[n]? with
  | none => exact h0
  | some x => exact h x (List.mem_of_getElem? e)
theorem wordL_ok (c k : Int) : ∀ x ∈ wordL c k, x < 128 := by
  have h1 : ∀ i, qxz i < 128 := fun i => getD_mem (· < 128) (by decide) (by decide)
  have h2 : ∀ x ∈ pairL c k, x < 128 := by
    intro x hx
    simp only [pairL, List.mem_cons, List.not_mem_nil, or_false] at hx
    rcases hx with e | e
    · subst e; exact getD_mem (· < 128) (by decide) (by decide)
    · subst e; exact h1 _
  have h3 : ∀ n, ∀ x ∈ moreL c n, x < 128 := by
    intro n x hx
    obtain ⟨j, _, rfl⟩ := List.mem_map.mp hx
    exact h1 _
  intro x hx
  unfold wordL at hx
  split at hx <;> (rcases List.mem_append.mp hx with e | e <;> first | exact h2 _ e | exact h3 _ _ e)
end
end Px

set_option linter.all false
set_option maxRecDepth 100000
set_option maxHeartbeats 0
namespace Px
open PySem
/-! share and time, as they stand in k21, k22, k23 .. -/
section
variable {g : Gd} {i iM iL : Nat}
def MixSp (g : Gd) (i : Nat) : Prop := ∀ (k : Nat) (c : Int) (n : Int) (s : St), 0 ≤ n → n ≤ 1000 → callF g (k + 1) i [.int c, .int n] s = .ok (.int (mixI c n)) s
def Low2Sp (g : Gd) (i : Nat) : Prop := ∀ (k : Nat) (t b : Int) (s : St), 0 < b → Bd 9000 b → callF g (k + 1) i [.int t, .int b] s = .ok (fr (lp_ t b) (lq_ t b)) s
def Cshare (iM iL : Nat) : Ss :=
  .cons (.set 1 (.op .sub (.op .mod (.op .fdiv (.call iM (.cons (.v 0) (.cons (.k (.int 1)) .nil)) []) (.k (.int 5))) (.k (.int 19))) (.k (.int 9)))) <|
  .cons (.set 2 (.op .add (.k (.int 1)) (.op .mod (.op .fdiv (.call iM (.cons (.v 0) (.cons (.k (.int 2)) .nil)) []) (.k (.int 5))) (.k (.int 6))))) <|
  .cons (.ite (.op .eq (.op .mod (.op .fdiv (.call iM (.cons (.v 0) (.cons (.k (.int 3)) .nil)) []) (.k (.int 5))) (.k (.int 6))) (.k (.int 1))) (.cons (.set 1 (.op .sub (.op .mod (.call iM (.cons (.v 0) (.cons (.k (.int 1)) .nil)) []) (.k (.int 1999999999))) (.k (.int 999999999)))) <|
  .cons (.set 2 (.op .add (.k (.int 1)) (.op .mod (.call iM (.cons (.v 0) (.cons (.k (.int 2)) .nil)) []) (.k (.int 999999))))) .nil) (.nil)) <|
  .cons (.ret (.call iL (.cons (.v 1) (.cons (.v 2) .nil)) [])) .nil
def Ctime : Ss :=
  .cons (.ite (.op .eq (.op .mod (.v 0) (.k (.int 7))) (.k (.int 6))) (.cons (.ret (.op .mod (.op .fdiv (.v 0) (.k (.int 7))) (.op .add (.op .pow (.k (.int 10)) (.k (.int 9))) (.k (.int 1))))) .nil) (.nil)) <|
  .cons (.ret (.op .add (.v 1) (.op .mod (.op .fdiv (.v 0) (.k (.int 7))) (.k (.int 30))))) .nil
def shT (c : Int) : Int := if ((mixI c 3).fdiv 5).fmod 6 = 1 then (mixI c 1).fmod 1999999999 - 999999999 else ((mixI c 1).fdiv 5).fmod 19 - 9
def shB (c : Int) : Int := if ((mixI c 3).fdiv 5).fmod 6 = 1 then 1 + (mixI c 2).fmod 999999 else 1 + ((mixI c 2).fdiv 5).fmod 6
theorem sh_bd (c : Int) : -(10 ^ 9) ≤ shT c ∧ shT c ≤ 10 ^ 9 ∧ 0 < shB c ∧ shB c ≤ 10 ^ 6 := by
  have a1 := fmod_bd (mixI c 1) (b := 1999999999) (by decide)
  have a2 := fmod_bd ((mixI c 1).fdiv 5) (b := 19) (by decide)
  have a3 := fmod_bd (mixI c 2) (b := 999999) (by decide)
  have a4 := fmod_bd ((mixI c 2).fdiv 5) (b := 6) (by decide)
  unfold shT shB
  split <;> omega
/-- _law_share -/
theorem share_sp (hi : g.fns[i]? = some ⟨1, 3, Cshare iM iL, .raw⟩) (M : MixSp g iM) (Lo : Low2Sp g iL) (k : Nat) (c : Int) (s : St) : callF g (k + 2) i [.int c] s = .ok (fr (lp_ (shT c) (shB c)) (lq_ (shT c) (shB c))) s := by
  rw [call_eq hi rfl]
  have m1 := M k c 1 s (by decide) (by decide)
  have m2 := M k c 2 s (by decide) (by decide)
  have m3 := M k c 3 s (by decide) (by decide)
  have d1 := divS (st := s) (a := mixI c 1) (b := 5) (by decide) (by decide)
  have d2 := divS (st := s) (a := mixI c 2) (b := 5) (by decide) (by decide)
  have d3 := divS (st := s) (a := mixI c 3) (b := 5) (by decide) (by decide)
  have e1 := modS (st := s) (a := (mixI c 1).fdiv 5) (b := 19) (by decide)
  have e2 := modS (st := s) (a := (mixI c 2).fdiv 5) (b := 6) (by decide)
  have e3 := modS (st := s) (a := (mixI c 3).fdiv 5) (b := 6) (by decide)
  have e4 := modS (st := s) (a := mixI c 1) (b := 1999999999) (by decide)
  have e5 := modS (st := s) (a := mixI c 2) (b := 999999) (by decide)
  obtain ⟨b1, b2, b3, b4⟩ := sh_bd c
  have l := Lo k (shT c) (shB c) s b3 (bd9000 (by omega) (by omega))
  by_cases h : ((mixI c 3).fdiv 5).fmod 6 = 1
  · simp only [shT, shB, if_pos h] at l ⊢
    simp [Cshare, m1, m2, m3, d1, d2, d3, e1, e2, e3, e4, e5, h, l]
  · simp only [shT, shB, if_neg h] at l ⊢
    simp [Cshare, m1, m2, m3, d1, d2, d3, e1, e2, e3, e4, e5, h, l]
theorem shFr (c : Int) : Fr 40 (lp_ (shT c) (shB c)) (lq_ (shT c) (shB c)) := by
  obtain ⟨b1, b2, b3, b4⟩ := sh_bd c
  exact Fr.low (by omega) (bd_of (m := 10 ^ 9) (by omega) (by omega) (by decide)) (bd_of (m := 10 ^ 9) (by omega) (by omega) (by decide))
def timeI (c near : Int) : Int := if c.fmod 7 = 6 then (c.fdiv 7).fmod (10 ^ 9 + 1) else near + (c.fdiv 7).fmod 30
theorem time_nn {c near : Int} (h : 0 ≤ near) : 0 ≤ timeI c near := by
  have a := fmod_bd (c.fdiv 7) (b := 10 ^ 9 + 1) (by decide)
  have b := fmod_bd (c.fdiv 7) (b := 30) (by decide)
  unfold timeI
  split <;> omega
theorem time_le {c near : Int} (h : near ≤ 10 ^ 9 - 40) : timeI c near ≤ 10 ^ 9 := by
  have a := fmod_bd (c.fdiv 7) (b := 10 ^ 9 + 1) (by decide)
  have b := fmod_bd (c.fdiv 7) (b := 30) (by decide)
  unfold timeI
  split <;> omega
/-- _law_time -/
theorem time_sp (hi : g.fns[i]? = some ⟨2, 2, Ctime, .raw⟩) (k : Nat) (c near : Int) (s : St) : callF g (k + 1) i [.int c, .int near] s = .ok (.int (timeI c near)) s := by
  rw [call_eq hi rfl]
  have d1 := modS (st := s) (a := c) (b := 7) (by decide)
  have d2 := divS (st := s) (a := c) (b := 7) (by decide) (by decide)
  have p1 : opPow s (.int 10) (.int 9) = .ok (.int (10 ^ 9)) s := powI (by decide) (by decide) (by decide)
  have d3 := modS (st := s) (a := c.fdiv 7) (b := 10 ^ 9 + 1) (by decide)
  have d4 := modS (st := s) (a := c.fdiv 7) (b := 30) (by decide)
  generalize hX : (10 ^ 9 : Int) = X at *
  by_cases h : c.fmod 7 = 6
  · simp [Ctime, d1, d2, p1, d3, h, timeI, hX]
  · simp [Ctime, d1, d2, d4, h, timeI]
end
/-! ### sorted(..) -/
theorem le_tr (a b c : W) (h1 : PySem.W.dataLe false toD a b = true) (h2 : PySem.W.dataLe false toD b c = true) : PySem.W.dataLe false toD a c = true := by
  rw [PySem.W.dataLe_eq] at *
  simp only [cond_false, Bool.not_eq_true'] at *
  cases h : PySem.W.dataLt (toD c) (toD a) with
  | false => rfl
  | true =>
    rcases PyProof.Rows.lex_negTrans _ (PySem.W.keyToks (toD b)) _ h with h' | h'
    · exact (h2.symm.trans h').symm
    · exact (h1.symm.trans h').symm
theorem lt_asym {a b : PyData} (h : PySem.W.dataLt a b = true) : PySem.W.dataLt b a = false := by
  cases h2 : PySem.W.dataLt b a with
  | false => rfl
  | true =>
    have e1 : PySem.W.dataLt a a = true := PyProof.Rows.lex_trans _ _ _ h h2
    have e2 : PySem.W.dataLt a a = false := PyProof.Rows.lex_irrefl _
    exact (e2.symm.trans e1).symm
theorem le_tot (a b : W) : (PySem.W.dataLe false toD a b || PySem.W.dataLe false toD b a) = true := by
  rw [PySem.W.dataLe_eq]
  simp only [cond_false]
  cases h : PySem.W.dataLt (toD b) (toD a) with
  | false => rfl
  | true => rw [lt_asym h]; rfl
theorem srt_pair (l : List W) : (srt l).Pairwise fun a b => PySem.W.dataLt (toD b) (toD a) = false :=
  (List.pairwise_mergeSort le_tr le_tot l).imp fun h => by
    rw [PySem.W.dataLe_eq] at h
    simpa using h
theorem srt_perm (l : List W) : (srt l).Perm l := List.mergeSort_perm _ _
theorem srt_int (ns : List Int) : ∃ ms : List Int, ms.Perm ns ∧ ms.Pairwise (fun a b => a ≤ b) ∧ srt (ns.map .int) = ms.map .int := by
  have hp := srt_perm (ns.map .int)
  have hs := srt_pair (ns.map .int)
  obtain ⟨ms, e⟩ : ∃ ms : List Int, srt (ns.map .int) = ms.map .int := by
    refine ⟨(srt (ns.map .int)).map fun w => match w with | .int n => n | _ => 0, ?_⟩
    rw [List.map_map]
    refine (List.map_id _).symm.trans (List.map_congr_left fun w hw => ?_)
    obtain ⟨n, -, rfl⟩ := List.mem_map.mp (hp.mem_iff.mp hw)
    rfl
  rw [e] at hp hs
  refine ⟨ms, ?_, ?_, e⟩
  · have := hp.map fun w => match w with | .int n => n | _ => (0 : Int)
    rw [List.map_map, List.map_map] at this
    exact (List.map_id ms).symm ▸ (List.map_id ns).symm ▸ this
  · refine (List.pairwise_map.mp hs).imp fun h => ?_
    rw [show toD (.int _) = PyData.int _ from rfl, show toD (.int _) = PyData.int _ from rfl, PySem.W.dataLt_int] at h
    simpa using h
theorem srt_map {α : Type} (f : α → W) (us : List α) : ∃ vs : List α, vs.Perm us ∧ srt (us.map f) = vs.map f ∧ vs.Pairwise fun a b => PySem.W.dataLt (toD (f b)) (toD (f a)) = false := by
  have e : (us.mergeSort fun a b => PySem.W.dataLe false toD (f a) (f b)).map f = srt (us.map f) := List.map_mergeSort fun a _ b _ => rfl
  refine ⟨_, List.mergeSort_perm us _, e.symm, ?_⟩
  have := srt_pair (us.map f)
  rw [← e] at this
  exact List.pairwise_map.mp this
theorem lt_tip {a b : Int} (x y : List W) (h : b < a) : PySem.W.dataLt (toD (.tup (.int b :: x))) (toD (.tup (.int a :: y))) = true := by
  have e1 : toD (.tup (.int b :: x)) = .tuple (.int b :: toDs x) := by simp [toD, toDs]
  have e2 : toD (.tup (.int a :: y)) = .tuple (.int a :: toDs y) := by simp [toD, toDs]
  rw [e1, e2, PySem.W.dataLt_tuple, PySem.W.dataLt_cons (by simp only [PySem.W.alike]), if_neg, PySem.W.dataLt_int]
  · exact decide_eq_true h
  · intro e
    have : b = a := by simpa [PyData.eqv] using e
    omega
end Px

set_option linter.all false
set_option maxRecDepth 100000
set_option maxHeartbeats 0
namespace Px
open PySem
theorem eqFr {s : St} (p q r t : Int) : eqR s (fr p q) (fr r t) = some (decide (p = r ∧ q = t)) := by
  rw [show eqR s (fr p q) (fr r t) = some (eqvL [.int p, .int q] [.int r, .int t]) from eqR_tup (by simp [datL, dat]) (by simp [datL, dat])]
  simp only [eqvL, eqv, Bool.and_true]
  by_cases h1 : p = r <;> by_cases h2 : q = t <;> simp [h1, h2]
theorem cut_map {α β : Type} (f : α → β) (l : List α) (a b : Option Int) : cut (l.map f) a b = (cut l a b).map f := by
  unfold cut
  rw [List.length_map, List.map_take, List.map_drop]
theorem cut_le {α : Type} (l : List α) (a b : Option Int) : (cut l a b).length ≤ l.length := cut_len l a b
theorem sl_lst {s : St} {l : List W} {a b : Option Int} : slW true s (.lst l) a b = .ok (.lst (cut l a b)) s := rfl
theorem cut_mem {α : Type} {l : List α} {a b : Option Int} {x : α} (h : x ∈ cut l a b) : x ∈ l := by
  unfold cut at h
  exact List.mem_of_mem_drop (List.mem_of_mem_take h)
theorem walk_lst {s : St} {l : List W} : walkVal s (.lst l) = some ⟨l, fun _ => True⟩ := rfl
theorem walk_tup {s : St} {l : List W} : walkVal s (.tup l) = some ⟨l, fun _ => True⟩ := rfl
section
variable {g : Gd} {i : Nat}
def Cispair : Ss :=
  .cons (.ite (.or_ (.not_ (.isi (.v 0) [.tup])) (.op .ne (.bi true .len (.cons (.v 0) .nil)) (.k (.int 2)))) (.cons (.ret (.k (.bl false))) .nil) (.nil)) <|
  .cons (.for_ (.one 1) (.val (.v 0)) (.cons (.ite (.or_ (.not_ (.isi (.v 1) [.int])) (.isi (.v 1) [.bool])) (.cons (.ret (.k (.bl false))) .nil) (.nil)) .nil)) <|
  .cons (.ret (.k (.bl true))) .nil
theorem is_pair_sp (h : g.fns[i]? = some ⟨1, 2, Cispair, .raw⟩) (k : Nat) (p q : Int) (s : St) : callF g (k + 1) i [fr p q] s = .ok (.bl true) s := by
  rw [call_eq h rfl]
  have t1 : isTy s (fr p q) .tup = some true := rfl
  have l1 : biW true .len [fr p q] s = .ok (.int 2) s := rfl
  have ew : walkVal s (fr p q) = some ⟨[.int p, .int q], fun _ => True⟩ := rfl
  have t2 : ∀ i, isTy s (.int i) .int = some true := fun _ => rfl
  have t3 : ∀ i, isTy s (.int i) .bool = some false := fun _ => rfl
  simp [Cispair, t1, l1, ew]
  rw [forL_cons trivial rfl]
  simp [t2, t3]
  rw [forL_cons trivial rfl]
  simp [t2, t3]
def hI (cs : List Int) : W → Int
  | .int k => cs.getD k.toNat 0
  | _ => 0
def oddI (m r : Int) : W → Bool
  | .int k => decide (k.fmod m = r)
  | _ => false
/-- [cells[k] for k in range(len(cells)) if k % m == r][..] -/
theorem seconds {cl : Nat → List W → St → R W} {mkc : Nat → Nat → List W → St → R W} {mt : Nat → Nat → Option Nat} (s : St) (cs : List Int) (hcs : cs.length ≤ 100) {m : Int} (h0 : 0 < m) (h1 : m ≤ 100) (r : Int) (a x : Nat) (most : Option Int) (e : Px.Env) (h3 : e[a]? = some (some (.lst (cs.map .int)))) (h16 : x < e.length) (hax : a ≠ x) :
    ∃ ds : List Int, ds.length ≤ 100 ∧ evE cl mkc mt (.lc true (.one x) (.range (.cons (.bi true .len (.cons (.v a) .nil)) .nil)) (.op .eq (.op .mod (.v x) (.k (.int m))) (.k (.int r))) (.ix (.v a) (.v x))) e s = .ok (.lst (ds.map .int)) s := by
  have wr : walkRange [.int (cs.length : Int)] = some ⟨rng 0 cs.length 1, fun _ => True⟩ := by
    have := walk_rng (s := (cs.length : Int)) (small_of (by omega) (by omega)) (by omega)
    rwa [Int.toNat_natCast] at this
  have lc := lcL_map (chk := fun _ => True) (tg := .one x) (c := evE cl mkc mt (.op .eq (.op .mod (.v x) (.k (.int m))) (.k (.int r)))) (e := evE cl mkc mt (.ix (.v a) (.v x))) (env := e) (s := s) (p := oddI m r) (f := fun w => .int (hI cs w)) trivial (rng 0 cs.length 1) [] (Nat.le_trans (show ([] : List W).length + (rng 0 cs.length 1).length ≤ 100 by rw [rng_len]; simpa using hcs) (by decide)) (fun y hx => by
    obtain ⟨j, hj, rfl⟩ := List.mem_map.mp hx
    have hj : j < cs.length := List.mem_range.mp hj
    have e0 : (0 : Int) + (j : Int) * 1 = (j : Int) := by omega
    have q := modS (st := s) (a := (j : Int)) h0
    have i1 := ixI (s := s) (l := cs) (i := (j : Int)) (by omega) (by omega)
    have s16 : (e.set x (some (.int ((0 : Int) + (j : Int) * 1))))[x]? = some (some (.int (j : Int))) := by rw [List.getElem?_set_self h16, e0]
    have s3 : (e.set x (some (.int ((0 : Int) + (j : Int) * 1))))[a]? = some (some (.lst (cs.map .int))) := by rw [List.getElem?_set_ne (Ne.symm hax)]; exact h3
    refine ⟨_, rfl, ?_, fun _ => ?_⟩
    · simp only [r_op, r_v, s16, r_k, R.bind_ok, o_mod, q, o_eq, eqII, okB_some]
      simp only [oddI, e0]
    · simp only [r_ix, r_v, s16, s3, R.bind_ok, i1]
      simp only [hI, e0])
  refine ⟨((rng 0 cs.length 1).filter (oddI m r)).map (hI cs), ?_, ?_⟩
  · rw [List.length_map]
    refine Nat.le_trans (List.length_filter_le _ _) ?_
    rw [rng_len]; exact hcs
  · have em : (((rng 0 cs.length 1).filter (oddI m r)).map fun w => W.int (hI cs w)) = (((rng 0 cs.length 1).filter (oddI m r)).map (hI cs)).map .int := by rw [List.map_map]; rfl
    rw [List.nil_append, em] at lc
    have ln : biW true .len [.lst (cs.map .int)] s = .ok (.int cs.length) s := by rw [bi_lenL, List.length_map]
    have h1 : evEs cl mkc mt (.cons (.bi true .len (.cons (.v a) .nil)) .nil) e s = .ok [.int cs.length] s := by
      simp only [r_cons, r_bi, r_v, h3, r_nil, R.bind_ok, ln]
    have h2 : evIt cl mkc mt (.range (.cons (.bi true .len (.cons (.v a) .nil)) .nil)) e s = .ok ⟨rng 0 cs.length 1, fun _ => True⟩ s := by
      rw [r_range, h1, R.bind_ok, wr]
    rw [r_lc, h2, R.bind_ok]
    exact (congrArg (fun z => R.bind z fun l s => newL true l s) lc)
def wF (v0 v1 v2 : List Nat) : W → W
  | .int 0 => .str v0
  | .int 1 => .str v1
  | _ => .str v2
/-- [word(cell_at(script, 0), k) for k in range(3)] -/
theorem words3 {iC iW x : Nat} (k : Nat) {ns : List Int} {z : Int} {v0 v1 v2 : List Nat} {s : St} (c0 : callF g k iC [.lst (ns.map .int), .int 0] s = .ok (.int z) s) (w0 : callF g k iW [.int z, .int 0] s = .ok (.str v0) s) (w1 : callF g k iW [.int z, .int 1] s = .ok (.str v1) s) (w2 : callF g k iW [.int z, .int 2] s = .ok (.str v2) s)
    (e : Px.Env) (h0 : e[0]? = some (some (.lst (ns.map .int)))) (hx : x < e.length) (hx0 : x ≠ 0) :
    evE (callF g k) (mkF g k) (mtF g) (.lc true (.one x) (.range (.cons (.k (.int 3)) .nil)) (.k (.bl true)) (.call iW (.cons (.call iC (.cons (.v 0) (.cons (.k (.int 0)) .nil)) []) (.cons (.v x) .nil)) [])) e s = .ok (.lst [.str v0, .str v1, .str v2]) s := by
  have wr3 : walkRange [.int 3] = some ⟨[.int 0, .int 1, .int 2], fun _ => True⟩ := rfl
  have g0 : ∀ w, (e.set x w)[0]? = some (some (.lst (ns.map .int))) := fun w => by rw [List.getElem?_set_ne hx0]; exact h0
  have gx : ∀ w, (e.set x w)[x]? = some w := fun w => List.getElem?_set_self hx
  have lw := lcL_all (chk := fun _ => True) (tg := .one x) (c := evE (callF g k) (mkF g k) (mtF g) (.k (.bl true))) (e := evE (callF g k) (mkF g k) (mtF g) (.call iW (.cons (.call iC (.cons (.v 0) (.cons (.k (.int 0)) .nil)) []) (.cons (.v x) .nil)) [])) (env := e) (s := s) (f := wF v0 v1 v2) trivial [.int 0, .int 1, .int 2] (show 3 ≤ line by decide) (fun y hy => by
    simp only [List.mem_cons, List.not_mem_nil, or_false] at hy
    rcases hy with hy | hy | hy <;> subst hy
    · exact ⟨_, rfl, r_k, by simp [g0, gx, c0, w0, wF]⟩
    · exact ⟨_, rfl, r_k, by simp [g0, gx, c0, w1, wF]⟩
    · exact ⟨_, rfl, r_k, by simp [g0, gx, c0, w2, wF]⟩)
  have h2 : evIt (callF g k) (mkF g k) (mtF g) (.range (.cons (.k (.int 3)) .nil)) e s = .ok ⟨[.int 0, .int 1, .int 2], fun _ => True⟩ s := by
    rw [r_range, r_cons, r_k, R.bind_ok, r_nil, R.bind_ok, R.bind_ok, wr3]
  rw [r_lc, h2, R.bind_ok]
  exact (congrArg (fun z => R.bind z fun l s => newL true l s) lw)
end
/-- a step of a def's body by a value -/
theorem set_step {cl : Nat → List W → St → R W} {mkc : Nat → Nat → List W → St → R W} {mt : Nat → Nat → Option Nat} {xf : Nat → Nat → Option Bool} {xfl : Nat → Option Nat} {i : Nat} {a : E} {r : Ss} {e : Env} {s s2 : St} {w : W} (h : evE cl mkc mt a e s = .ok w s2) : evSs cl mkc mt xf xfl (.cons (.set i a) r) e s = evSs cl mkc mt xf xfl r (e.set i (some w)) s2 := by
  rw [ss_cons, s_set, h]; rfl
theorem it_val {cl : Nat → List W → St → R W} {mkc : Nat → Nat → List W → St → R W} {mt : Nat → Nat → Option Nat} {a : E} {e : Env} {s s2 : St} {w : W} {wk : Walk} (h : evE cl mkc mt a e s = .ok w s2) (hw : walkVal s2 w = some wk) : evIt cl mkc mt (.val a) e s = .ok wk s2 := by
  rw [r_val, h, R.bind_ok, hw]
/-- a step by a walk -/
theorem for_step {cl : Nat → List W → St → R W} {mkc : Nat → Nat → List W → St → R W} {mt : Nat → Nat → Option Nat} {xf : Nat → Nat → Option Bool} {xfl : Nat → Option Nat} {tg : Tg} {it : It} {b r : Ss} {e e2 : Env} {s s1 s2 : St} {l : List W} {chk : St → Prop} (h : evIt cl mkc mt it e s = .ok ⟨l, chk⟩ s1) (h2 : forL chk tg (evSs cl mkc mt xf xfl b) l e s1 = .nx e2 s2) : evSs cl mkc mt xf xfl (.cons (.for_ tg it b) r) e s = evSs cl mkc mt xf xfl r e2 s2 := by
  rw [ss_cons, s_for, h]
  show (match forL chk tg (evSs cl mkc mt xf xfl b) l e s1 with
    | .nx e2 s2 => evSs cl mkc mt xf xfl r e2 s2
    | q => q) = _
  rw [h2]
/-- a step by a walk over a list -/
theorem forL_step {cl : Nat → List W → St → R W} {mkc : Nat → Nat → List W → St → R W} {mt : Nat → Nat → Option Nat} {xf : Nat → Nat → Option Bool} {xfl : Nat → Option Nat} {tg : Tg} {a : E} {b r : Ss} {e e2 : Env} {s s1 s2 : St} {l : List W} (h : evE cl mkc mt a e s = .ok (.lst l) s1) (h2 : forL (fun _ => True) tg (evSs cl mkc mt xf xfl b) l e s1 = .nx e2 s2) : evSs cl mkc mt xf xfl (.cons (.for_ tg (.val a) b) r) e s = evSs cl mkc mt xf xfl r e2 s2 :=
  for_step (it_val h walk_lst) h2
end Px

set_option linter.all false
set_option maxRecDepth 100000
set_option maxHeartbeats 0
namespace Px
open PySem
theorem it_len {cl : Nat → List W → St → R W} {mkc : Nat → Nat → List W → St → R W} {mt : Nat → Nat → Option Nat} {i : Nat} {e : Env} {s : St} {l : List W} (h : e[i]? = some (some (.lst l))) (hl : l.length ≤ 1000000) : evIt cl mkc mt (.range (.cons (.bi true .len (.cons (.v i) .nil)) .nil)) e s = .ok ⟨rng 0 l.length 1, fun _ => True⟩ s := by
  have wrn : walkRange [.int (l.length : Int)] = some ⟨rng 0 l.length 1, fun _ => True⟩ := by
    have := walk_rng (s := (l.length : Int)) (small_of (by omega) (by omega)) (by omega)
    rwa [Int.toNat_natCast] at this
  have ln : biW true .len [.lst l] s = .ok (.int l.length) s := bi_lenL
  have h1 : evEs cl mkc mt (.cons (.bi true .len (.cons (.v i) .nil)) .nil) e s = .ok [.int l.length] s := by
    simp only [r_cons, r_bi, r_v, h, r_nil, R.bind_ok, ln]
  rw [r_range, h1, R.bind_ok, wrn]
/-- a walk over range(a, a + n) -/
theorem forL_rngA {tg : Tg} {body : Env → St → RS} {n : Nat} (a : Int) (I : Nat → Env → St → Prop)
    (step : ∀ j e s, j < n → I j e s → ∃ e' e2 s2, setTg tg (.int (a + j)) e = some e' ∧ (body e' s = .nx e2 s2 ∨ body e' s = .ct e2 s2) ∧ I (j + 1) e2 s2) (e : Env) (s : St) (h : I 0 e s) : ∃ e2 s2, forL (fun _ => True) tg body (rng a n 1) e s = .nx e2 s2 ∧ I n e2 s2 := by
  have z := forL_to (chk := fun _ => True) (tg := tg) (body := body) (fun l e s => ∃ j, j ≤ n ∧ l = (rng a n 1).drop j ∧ I j e s) (fun _ _ _ _ => trivial) (fun x l e s ⟨j, hj, hl, hi⟩ => ?_) (rng a n 1) e s ⟨0, Nat.zero_le _, by simp, h⟩
  · obtain ⟨e2, s2, h1, j, hj, hl, hi⟩ := z
    have : j = n := by
      by_cases hlt : j < n
      · rw [rng_at hlt] at hl; cases hl
      · omega
    subst this
    exact ⟨e2, s2, h1, hi⟩
  · have hlt : j < n := by
      by_cases hlt : j < n
      · exact hlt
      · rw [rng_end (by omega)] at hl; cases hl
    rw [rng_at hlt] at hl
    cases hl
    obtain ⟨e', e2, s2, k1, k2, k3⟩ := step j e s hlt hi
    refine ⟨e', e2, s2, ?_, k2, j + 1, hlt, rfl, k3⟩
    have : a + (j : Int) * 1 = a + j := by omega
    rw [this]
    exact k1
theorem walk_rng2 {a b : Int} (h : small a) (h2 : small b) : walkRange [.int a, .int b] = some ⟨rng a (b - a).toNat 1, fun _ => True⟩ := if_pos ⟨h, h2⟩
theorem at_end {s : St} {x : O} : (s ++ [x])[s.length]? = some x := by rw [List.getElem?_append_right (Nat.le_refl _)]; simp
theorem set_end {s : St} {x y : O} : (s ++ [x]).set s.length y = s ++ [y] := by rw [List.set_append_right _ _ (Nat.le_refl _)]; simp
theorem recv_end {s : St} {l : List W} : recv (s ++ [.lst l]) (.ref s.length) = some .lst := by
  show (match (s ++ [O.lst l])[s.length]? with
    | some (.lst _) => some Rc.lst
    | _ => none) = _
  rw [at_end]
end Px

set_option linter.all false
set_option maxRecDepth 100000
set_option maxHeartbeats 0
/-! Px19: numbers and times as texts -/
namespace Px
open PySem
/-! ### the figures of a number -/
abbrev numL (n : Nat) : List Nat := TL.numL n
theorem numS_nat (n : Nat) : numS (n : Int) = numL n := TL.tl_num n
def isDig (c : Nat) : Bool := decide (48 ≤ c) && decide (c ≤ 57)
/-- the number that figures write -/
def numOf (w : List Nat) : Option Nat :=
  if w = [] ∨ 60 < w.length then none else if w.all isDig = false then none else if w.head? = some 48 ∧ 1 < w.length then none else some (NumText.digitsVal w)
def oN : Option Nat → W
  | none => .non
  | some n => .int n
theorem numL_all (n : Nat) : (numL n).all isDig = true := by
  rw [List.all_eq_true]
  intro c hc
  have := TL.numL_digits n c hc
  unfold isDig
  simp only [Bool.and_eq_true, decide_eq_true_eq]
  omega
theorem numL_head : ∀ n : Nat, 0 < n → ∃ c r, numL n = c :: r ∧ 49 ≤ c := by
  intro n
  induction n using Nat.strongRecOn with
  | _ n ih =>
    intro hn
    by_cases h : n < 10
    · exact ⟨48 + n, [], TL.numL_lt h, by omega⟩
    · obtain ⟨c, r, e, hc⟩ := ih (n / 10) (by omega) (by omega)
      have e : TL.numL (n / 10) = c :: r := e
      exact ⟨c, r ++ [48 + n % 10], by show TL.numL n = _; rw [TL.numL_step (by omega), e]; rfl, hc⟩
theorem numOf_num {n : Nat} (h : (numL n).length ≤ 60) : numOf (numL n) = some n := by
  unfold numOf
  rw [if_neg (by rintro (e | e); exact TL.numL_ne n e; omega), if_neg (by rw [numL_all]; decide), if_neg, TL.numL_val]
  rintro ⟨e1, e2⟩
  by_cases h0 : n = 0
  · subst h0
    have : TL.numL 0 = [48] := TL.numL_lt (by decide)
    rw [show numL 0 = [48] from this] at e2
    exact absurd e2 (by decide)
  · obtain ⟨c, r, e, hc⟩ := numL_head n (by omega)
    rw [e] at e1
    cases e1
    omega
theorem numL_free {n s : Nat} (h : s < 48 ∨ 57 < s) : s ∉ numL n := TL.numL_free h
theorem numL_len {n k : Nat} (hk : 0 < k) (h : n < 10 ^ k) : (numL n).length ≤ k := TL.numL_len hk h
theorem head_num {d : Nat} {r : List Nat} : numL d ++ r ≠ [] := by
  intro e
  exact TL.numL_ne d (List.append_eq_nil_iff.mp e).1
theorem addS {s : St} {a b : List Nat} (h : a.length + b.length ≤ line) : opAdd s (.str a) (.str b) = .ok (.str (a ++ b)) s := if_pos h
theorem lenS {fz : Bool} {s : St} {a : List Nat} (h : a.length ≤ line) : biW fz .len [.str a] s = .ok (.int a.length) s := if_pos h
theorem bi_str {fz : Bool} {s : St} {n : Nat} (h : n < 2 ^ 1900) : biW fz .str [.int (n : Int)] s = .ok (.str (numL n)) s := by
  have h2 : ((n : Int)).natAbs.log2 < 1920 := by
    rw [Int.natAbs_natCast]
    by_cases h0 : n = 0
    · subst h0; decide
    · exact Nat.lt_of_lt_of_le ((Nat.log2_lt h0).mpr h) (by decide)
  show (if ((n : Int)).natAbs.log2 < 1920 then R.ok (W.str (numS (n : Int))) s else .bad) = _
  rw [if_pos h2, numS_nat]
section
variable {g : Gd} {i iN iT : Nat}
def Cnum : Ss :=
  .cons (.ite (.or_ (.op .eq (.v 0) (.k (.str []))) (.op .gt (.bi true .len (.cons (.v 0) .nil)) (.k (.int 60)))) (.cons (.ret (.k (.non))) .nil) (.nil)) <|
  .cons (.for_ (.one 1) (.val (.v 0)) (.cons (.ite (.op .nin (.v 1) (.k (.str [48, 49, 50, 51, 52, 53, 54, 55, 56, 57]))) (.cons (.ret (.k (.non))) .nil) (.nil)) .nil)) <|
  .cons (.ite (.and_ (.op .eq (.ix (.v 0) (.k (.int 0))) (.k (.str [48]))) (.op .gt (.bi true .len (.cons (.v 0) .nil)) (.k (.int 1)))) (.cons (.ret (.k (.non))) .nil) (.nil)) <|
  .cons (.ret (.bi true .int (.cons (.v 0) .nil))) .nil
def NumSp (g : Gd) (i : Nat) : Prop := ∀ (k : Nat) (w : List Nat) (s : St), w.length ≤ line → callF g (k + 1) i [.str w] s = .ok (oN (numOf w)) s
theorem dig_mem (c : Nat) : decide (c ∈ [48, 49, 50, 51, 52, 53, 54, 55, 56, 57]) = isDig c := by
  rw [Bool.eq_iff_iff]
  unfold isDig
  simp only [decide_eq_true_eq, Bool.and_eq_true, List.mem_cons, List.not_mem_nil, or_false]
  omega
theorem num_sp (h : g.fns[i]? = some ⟨1, 2, Cnum, .raw⟩) : NumSp g i := fun k w s hl => by
  rw [call_eq h rfl]
  have ln := lenS (fz := true) (s := s) hl
  unfold numOf
  by_cases h0 : w = []
  · subst h0
    rw [if_pos (.inl rfl)]
    simp [Cnum, oN]
  · by_cases h1 : 60 < w.length
    · rw [if_pos (.inr h1)]
      have h1' : (60 : Int) < (w.length : Int) := by omega
      simp [Cnum, h0, ln, h1', oN]
    · rw [if_neg (by rintro (e | e); exact h0 e; exact h1 e)]
      have h1' : (60 : Int) < (w.length : Int) ↔ False := ⟨fun z => by omega, False.elim⟩
      have ew : walkVal s (.str w) = some ⟨w.map fun c => .str [c], fun _ => True⟩ := rfl
      have body : ∀ (c : Nat) (A : Option W), evSs (callF g k) (mkF g k) (mtF g) g.xf g.xfl (.cons (.ite (.op .nin (.v 1) (.k (.str [48, 49, 50, 51, 52, 53, 54, 55, 56, 57]))) (.cons (.ret (.k (.non))) .nil) (.nil)) .nil) [A, some (.str [c])] s = if isDig c = true then .nx [A, some (.str [c])] s else .ret .non s := fun c A => by
        have e1 : inR s (.str [c]) (.str [48, 49, 50, 51, 52, 53, 54, 55, 56, 57]) = some (isDig c) := by rw [← dig_mem c]; rfl
        cases h2 : isDig c <;> rw [h2] at e1 <;> simp [e1]
      have loop : ∀ (l : List Nat) (A x : Option W), (l.all isDig = true → ∃ x', forL (fun _ => True) (.one 1) (evSs (callF g k) (mkF g k) (mtF g) g.xf g.xfl (.cons (.ite (.op .nin (.v 1) (.k (.str [48, 49, 50, 51, 52, 53, 54, 55, 56, 57]))) (.cons (.ret (.k (.non))) .nil) (.nil)) .nil)) (l.map fun c => .str [c]) [A, x] s = .nx [A, x'] s) ∧
          (l.all isDig = false → forL (fun _ => True) (.one 1) (evSs (callF g k) (mkF g k) (mtF g) g.xf g.xfl (.cons (.ite (.op .nin (.v 1) (.k (.str [48, 49, 50, 51, 52, 53, 54, 55, 56, 57]))) (.cons (.ret (.k (.non))) .nil) (.nil)) .nil)) (l.map fun c => .str [c]) [A, x] s = .ret .non s) := by
        intro l
        induction l with
        | nil => intro A x; exact ⟨fun _ => ⟨x, by simp⟩, fun z => by cases z⟩
        | cons c l ih =>
          intro A x
          have st := body c A
          have e0 : [A, x].set 1 (some (W.str [c])) = [A, some (.str [c])] := rfl
          rw [List.map_cons, forL_cons trivial rfl, e0, st, List.all_cons]
          cases h2 : isDig c with
          | true =>
            rw [if_pos rfl]
            obtain ⟨i1, i2⟩ := ih A (some (.str [c]))
            exact ⟨fun z => i1 z, fun z => i2 z⟩
          | false =>
            rw [if_neg (by decide)]
            exact ⟨fun z => (by cases z), fun _ => rfl⟩
      cases ha : w.all isDig with
      | false =>
        rw [if_pos rfl]
        have e := (loop w (some (.str w)) none).2 ha
        unfold Cnum
        generalize (Ss.cons (.ite (.op .nin (.v 1) (.k (.str [48, 49, 50, 51, 52, 53, 54, 55, 56, 57]))) (.cons (.ret (.k (.non))) .nil) (.nil)) .nil) = B at e ⊢
        simp [h0, ln, h1', ew, e, oN]
      | true =>
        rw [if_neg (by decide)]
        obtain ⟨x', e⟩ := (loop w (some (.str w)) none).1 ha
        obtain ⟨c, r, rfl⟩ : ∃ c r, w = c :: r := by cases w with
          | nil => exact absurd rfl h0
          | cons c r => exact ⟨c, r, rfl⟩
        have i0 : ixW s (.str (c :: r)) (.int 0) = .ok (.str [c]) s := by
          rw [ixS (by decide) (by simp) hl] <;> rfl
        have dg : digs (c :: r) = true := by
          unfold digs
          have : ((c :: r).all fun c => decide (48 ≤ c) && decide (c ≤ 57)) = true := ha
          rw [this]
          have : decide ((c :: r).length ≤ 640) = true := decide_eq_true (by omega)
          rw [this]; rfl
        have bi : biW true .int [.str (c :: r)] s = .ok (.int (NumText.digitsVal (c :: r))) s := by
          show (if digs (c :: r) = true then R.ok (W.int (NumText.digitsVal (c :: r))) s else .bad) = _
          rw [if_pos dg]
        unfold Cnum
        generalize (Ss.cons (.ite (.op .nin (.v 1) (.k (.str [48, 49, 50, 51, 52, 53, 54, 55, 56, 57]))) (.cons (.ret (.k (.non))) .nil) (.nil)) .nil) = B at e ⊢
        by_cases h2 : c = 48
        · by_cases h3 : 1 < (c :: r).length
          · rw [if_pos ⟨by rw [h2]; rfl, h3⟩]
            have h3' : (1 : Int) < ((c :: r).length : Int) ↔ True := ⟨fun _ => trivial, fun _ => by omega⟩
            subst h2
            generalize (48 :: r) = w at *
            simp [h0, ln, h1', ew, e, i0, h3', oN]
          · rw [if_neg (fun z => h3 z.2)]
            have h3' : (1 : Int) < ((c :: r).length : Int) ↔ False := ⟨fun z => by omega, False.elim⟩
            subst h2
            generalize (48 :: r) = w at *
            simp [h0, ln, h1', ew, e, i0, h3', bi, oN]
        · rw [if_neg (fun z => h2 (by have := z.1; cases this; rfl))]
          have h2' : ([c] : List Nat) = [48] ↔ False := ⟨fun z => h2 (by cases z; rfl), False.elim⟩
          generalize (c :: r) = w at *
          simp [h0, ln, h1', ew, e, i0, h2', bi, oN]
end
end Px

set_option linter.all false
set_option maxRecDepth 100000
set_option maxHeartbeats 0
/-! Px20: times read and written -/
namespace Px
open PySem
theorem dv_lt : ∀ (cs : List Nat) (a k : Nat), cs.all isDig = true → a < 10 ^ k → cs.foldl (fun acc c => acc * 10 + (c - 48)) a < 10 ^ (k + cs.length)
  | [], a, k, _, h => h
  | c :: r, a, k, hd, h => by
    rw [List.all_cons, Bool.and_eq_true] at hd
    have hc := hd.1
    unfold isDig at hc
    simp only [Bool.and_eq_true, decide_eq_true_eq] at hc
    have := dv_lt r (a * 10 + (c - 48)) (k + 1) hd.2 (by rw [Nat.pow_succ]; omega)
    rw [List.foldl_cons, List.length_cons, show k + (r.length + 1) = k + 1 + r.length by omega]
    exact this
theorem numOf_lt {w : List Nat} {n : Nat} (h : numOf w = some n) : n < 10 ^ 60 := by
  unfold numOf at h
  split at h
  · cases h
  · rename_i h1
    split at h
    · cases h
    · rename_i h2
      split at h
      · cases h
      · cases h
        have := dv_lt w 0 0 (by simpa using h2) (by decide)
        refine Nat.lt_of_lt_of_le this ?_
        rw [Nat.zero_add]
        exact Nat.pow_le_pow_right (by decide) (by have : ¬ 60 < w.length := fun z => h1 (.inr z); omega)
theorem spl_len {S : List Nat} : ∀ (k : Nat) (acc l p : List Nat), p ∈ TL.spl S k acc l → p.length ≤ acc.length + l.length
  | k, acc, [], p, h => by rw [TL.spl_nil] at h; rw [List.mem_singleton.mp h]; exact Nat.le_add_right _ _
  | 0, acc, c :: r, p, h => by
    unfold TL.spl at h
    split at h
    · rcases List.mem_cons.mp h with e | h
      · rw [e]; exact Nat.le_add_right _ _
      · have := spl_len _ [] r p h
        rw [List.length_cons]; simp at this; omega
    · have := spl_len 0 (acc ++ [c]) r p h
      rw [List.length_append, List.length_singleton] at this
      rw [List.length_cons]; omega
  | k + 1, acc, _ :: r, p, h => by
    unfold TL.spl at h
    have := spl_len k acc r p h
    rw [List.length_cons]; omega
theorem par_len {S : List Nat} : ∀ (acc l p q : List Nat), TL.par S acc l = some (p, q) → p.length ≤ acc.length + l.length ∧ q.length ≤ l.length
  | acc, [], p, q, h => by cases h
  | acc, c :: r, p, q, h => by
    unfold TL.par at h
    split at h
    · cases h
      exact ⟨Nat.le_add_right _ _, by rw [List.length_drop]; omega⟩
    · have := par_len (acc ++ [c]) r p q h
      rw [List.length_append, List.length_singleton] at this
      rw [List.length_cons]; omega
def cutAt (c : Nat) (b : List Nat) : List Nat × List Nat × List Nat := match TL.par [c] [] b with
  | some (p, q) => (p, [c], q)
  | none => (b, [], [])
theorem cutAt_len {c : Nat} {b : List Nat} : (cutAt c b).1.length ≤ b.length ∧ (cutAt c b).2.2.length ≤ b.length := by
  unfold cutAt
  cases e : TL.par [c] [] b with
  | none => exact ⟨Nat.le_refl _, Nat.zero_le _⟩
  | some z =>
    obtain ⟨p, q⟩ := z
    have := par_len [] b p q e
    simp at this
    exact this
theorem m_split {s : St} {t : List Nat} {c : Nat} (hc : c < 256) (h : t.length + 2 ≤ line) : methW true .split (.str t) [.str [c]] s = .ok (.lst ((TL.spl [c] 0 [] t).map .str)) s := by
  show (if ([c] : List Nat).isEmpty = false ∧ t.length + 2 ≤ line then newL true ((PySem.Txt.split (sS t) (sS [c])).map fun x => W.str (uS x)) s else .bad) = _
  rw [if_pos ⟨rfl, h⟩, SX.split_S (by simp) (by simp [hc]), List.map_map]
  rfl
theorem m_part {s : St} {t : List Nat} {c : Nat} (h : t.length ≤ line) : methW true .partition (.str t) [.str [c]] s = .ok (.tup [.str (cutAt c t).1, .str (cutAt c t).2.1, .str (cutAt c t).2.2]) s := by
  show (if ([c] : List Nat).isEmpty = false ∧ t.length ≤ line then R.ok (W.tup [.str (uS (PySem.Txt.partition (sS t) (sS [c])).1), .str (uS (PySem.Txt.partition (sS t) (sS [c])).2.1), .str (uS (PySem.Txt.partition (sS t) (sS [c])).2.2)]) s else .bad) = _
  rw [if_pos ⟨rfl, h⟩]
  unfold cutAt
  cases e : TL.par [c] [] t with
  | none =>
    have z := SX.partition_none (a := t) (b := [c]) (by simp) e
    rw [show PySem.Txt.partition (sS t) (sS [c]) = _ from z]
  | some z =>
    obtain ⟨p, q⟩ := z
    have z := SX.partition_some (a := t) (b := [c]) (by simp) e
    rw [show PySem.Txt.partition (sS t) (sS [c]) = _ from z]
/-! ### two figures -/
def twoF (w : List Nat) (m : Nat) : Option Nat :=
  match w with
  | [a, b] => (match (if a = 48 then numOf [b] else numOf [a, b]) with
    | some n => if m ≤ n then none else some n
    | none => none)
  | _ => none
def tailT (dd : Option Nat) (b : List Nat) : Option Nat :=
  match twoF (cutAt 58 b).1 24, twoF (cutAt 58 b).2.2 60 with
  | some h, some m => (match dd with
    | some d => if 1000000000 < d * 1440 + h * 60 + m then none else some (d * 1440 + h * 60 + m)
    | none => none)
  | _, _ => none
def readT (t : List Nat) : Option Nat := match TL.spl [32] 0 [] t with
  | [a, b] => tailT (numOf a) b
  | _ => none
section
variable {g : Gd} {i iN iT x : Nat}
def Ctwo (iN : Nat) : Ss :=
  .cons (.ite (.op .ne (.bi true .len (.cons (.v 0) .nil)) (.k (.int 2))) (.cons (.ret (.k (.non))) .nil) (.nil)) <|
  .cons (.set 2 (.call iN (.cons (.v 0) .nil) [])) <|
  .cons (.ite (.op .eq (.ix (.v 0) (.k (.int 0))) (.k (.str [48]))) (.cons (.set 2 (.call iN (.cons (.ix (.v 0) (.k (.int 1))) .nil) [])) .nil) (.nil)) <|
  .cons (.ite (.or_ (.op .is_ (.v 2) (.k (.non))) (.op .ge (.v 2) (.v 1))) (.cons (.ret (.k (.non))) .nil) (.nil)) <|
  .cons (.ret (.v 2)) .nil
def TwoSp (g : Gd) (i : Nat) : Prop := ∀ (k : Nat) (w : List Nat) (m : Nat) (s : St), w.length ≤ line → callF g (k + 2) i [.str w, .int m] s = .ok (oN (twoF w m)) s
theorem two_sp (h : g.fns[i]? = some ⟨2, 3, Ctwo iN, .raw⟩) (N : NumSp g iN) : TwoSp g i := fun k w m s hl => by
  rw [call_eq h rfl]
  have ln := lenS (fz := true) (s := s) hl
  by_cases h2 : w.length = 2
  · match w, h2 with
    | [a, b], _ =>
      have ln : biW true .len [.str [a, b]] s = .ok (.int 2) s := ln
      have i0 : ixW s (.str [a, b]) (.int 0) = .ok (.str [a]) s := rfl
      have i1 : ixW s (.str [a, b]) (.int 1) = .ok (.str [b]) s := rfl
      have n1 := N k [a, b] s hl
      have n2 := N k [b] s (by show 1 ≤ 16777216; decide)
      have isn : ∀ n : Nat, isR (.int (n : Int)) .non = some false := fun _ => rfl
      unfold twoF
      dsimp only
      by_cases ha : a = 48
      · subst ha
        rw [if_pos rfl]
        cases e : numOf [b] with
        | none =>
          rw [e] at n2
          rw [show oN none = W.non from rfl] at n2
          simp [Ctwo, ln, i0, i1, n1, n2, oN]
        | some n =>
          rw [e] at n2
          rw [show oN (some n) = W.int n from rfl] at n2
          by_cases hm : m ≤ n
          · have hm' : (m : Int) ≤ n := by omega
            simp [Ctwo, ln, i0, i1, n1, n2, oN, hm, hm']
          · have hm' : ¬ (m : Int) ≤ n := by omega
            simp [Ctwo, ln, i0, i1, n1, n2, oN, hm, hm']
      · rw [if_neg ha]
        have ha' : ([a] : List Nat) = [48] ↔ False := ⟨fun z => ha (by cases z; rfl), False.elim⟩
        cases e : numOf [a, b] with
        | none =>
          rw [e] at n1
          rw [show oN none = W.non from rfl] at n1
          simp [Ctwo, ln, i0, n1, oN, ha']
        | some n =>
          rw [e] at n1
          rw [show oN (some n) = W.int n from rfl] at n1
          by_cases hm : m ≤ n
          · have hm' : (m : Int) ≤ n := by omega
            simp [Ctwo, ln, i0, n1, oN, ha', hm, hm']
          · have hm' : ¬ (m : Int) ≤ n := by omega
            simp [Ctwo, ln, i0, n1, oN, ha', hm, hm']
  · have h2' : (w.length : Int) = 2 ↔ False := ⟨fun z => h2 (by omega), False.elim⟩
    have e : twoF w m = none := by
      unfold twoF
      split
      · exact absurd rfl h2
      · rfl
    rw [e]
    simp [Ctwo, ln, h2', oN]
/-! ### read_time -/
def Cread (iN iT x : Nat) : Ss :=
  .cons (.set 1 (.meth true (.v 0) .split (.cons (.k (.str [32])) .nil))) <|
  .cons (.ite (.op .ne (.bi true .len (.cons (.v 1) .nil)) (.k (.int 2))) (.cons (.rse x (.cons (.k (.int 1)) .nil)) .nil) (.nil)) <|
  .cons (.set 2 (.call iN (.cons (.ix (.v 1) (.k (.int 0))) .nil) [])) <|
  .cons (.set 3 (.meth true (.ix (.v 1) (.k (.int 1))) .partition (.cons (.k (.str [58])) .nil))) <|
  .cons (.set 4 (.call iT (.cons (.ix (.v 3) (.k (.int 0))) (.cons (.k (.int 24)) .nil)) [])) <|
  .cons (.set 5 (.call iT (.cons (.ix (.v 3) (.k (.int 2))) (.cons (.k (.int 60)) .nil)) [])) <|
  .cons (.ite (.or_ (.op .is_ (.v 2) (.k (.non))) (.or_ (.op .is_ (.v 4) (.k (.non))) (.op .is_ (.v 5) (.k (.non))))) (.cons (.rse x (.cons (.k (.int 1)) .nil)) .nil) (.nil)) <|
  .cons (.set 6 (.op .add (.op .add (.op .mul (.v 2) (.k (.int 1440))) (.op .mul (.v 4) (.k (.int 60)))) (.v 5))) <|
  .cons (.ite (.op .gt (.v 6) (.k (.int 1000000000))) (.cons (.rse x (.cons (.k (.int 1)) .nil)) .nil) (.nil)) <|
  .cons (.ret (.v 6)) .nil
def outT (x : Nat) (s : St) : Option Nat → R W
  | some v => .ok (.int v) s
  | none => .exc x [.int 1] s
theorem two_lt {w : List Nat} {m n : Nat} (h : twoF w m = some n) : n < m := by
  unfold twoF at h
  split at h
  · split at h
    · split at h
      · cases h
      · cases h; omega
    · cases h
  · cases h
theorem read_sp (h : g.fns[i]? = some ⟨1, 7, Cread iN iT x, .raw⟩) (N : NumSp g iN) (T : TwoSp g iT) (k : Nat) (t : List Nat) (s : St) (hl : t.length + 2 ≤ line) : callF g (k + 3) i [.str t] s = outT x s (readT t) := by
  rw [call_eq h rfl]
  have rv : recv s (.str t) = some .str := rfl
  have mk : mok .str .split = true := rfl
  have sp := m_split (s := s) (c := 32) (by decide) hl
  have ls := fun p h => spl_len (S := [32]) 0 [] t p h
  unfold readT
  generalize TL.spl [32] 0 [] t = ws at sp ls
  by_cases h2 : ws.length = 2
  · match ws, h2 with
    | [a, b], _ =>
      have la := ls a (by simp)
      have lb := ls b (by simp)
      simp only [List.length_nil, Nat.zero_add] at la lb
      simp only [List.map_cons, List.map_nil] at sp
      have na := N (k + 1) a s (by omega)
      have rvb : recv s (.str b) = some .str := rfl
      have mkp : mok .str .partition = true := rfl
      have pa := m_part (s := s) (t := b) (c := 58) (by omega)
      have lc := cutAt_len (c := 58) (b := b)
      show _ = outT x s (tailT (numOf a) b)
      unfold tailT
      have t1 := T k (cutAt 58 b).1 24 s (by omega)
      have t2 := T k (cutAt 58 b).2.2 60 s (by omega)
      generalize (cutAt 58 b).1 = p0 at *
      generalize (cutAt 58 b).2.1 = p1 at *
      generalize (cutAt 58 b).2.2 = p2 at *
      have t1 : callF g (k + 2) iT [.str p0, .int 24] s = .ok (oN (twoF p0 24)) s := t1
      have t2 : callF g (k + 2) iT [.str p2, .int 60] s = .ok (oN (twoF p2 60)) s := t2
      cases e1 : twoF p0 24 with
      | none =>
        rw [e1] at t1
        rw [show oN none = W.non from rfl] at t1
        cases e0 : numOf a with
        | none =>
          rw [e0] at na
          rw [show oN none = W.non from rfl] at na
          simp [Cread, rv, mk, sp, na, rvb, mkp, pa, t1, t2, outT]
        | some d =>
          rw [e0] at na
          rw [show oN (some d) = W.int d from rfl] at na
          simp [Cread, rv, mk, sp, na, rvb, mkp, pa, t1, t2, outT]
      | some hh =>
        rw [e1] at t1
        rw [show oN (some hh) = W.int hh from rfl] at t1
        have b1 := two_lt e1
        cases e2 : twoF p2 60 with
        | none =>
          rw [e2] at t2
          rw [show oN none = W.non from rfl] at t2
          cases e0 : numOf a with
          | none =>
            rw [e0] at na
            rw [show oN none = W.non from rfl] at na
            simp [Cread, rv, mk, sp, na, rvb, mkp, pa, t1, t2, outT]
          | some d =>
            rw [e0] at na
            rw [show oN (some d) = W.int d from rfl] at na
            simp [Cread, rv, mk, sp, na, rvb, mkp, pa, t1, t2, outT]
        | some mm =>
          rw [e2] at t2
          rw [show oN (some mm) = W.int mm from rfl] at t2
          have b2 := two_lt e2
          cases e0 : numOf a with
          | none =>
            rw [e0] at na
            rw [show oN none = W.non from rfl] at na
            simp [Cread, rv, mk, sp, na, rvb, mkp, pa, t1, t2, outT]
          | some d =>
            rw [e0] at na
            rw [show oN (some d) = W.int d from rfl] at na
            have bd : Bd 250 (d : Int) := by
              have := numOf_lt e0
              exact bd_of (m := 10 ^ 60) (by omega) (by omega) (by decide)
            have m1 : opMul s (.int (d : Int)) (.int 1440) = .ok (.int ((d : Int) * 1440)) s := mulI (bd.mono (by decide)) (bd_of (n := 100000) (m := 2000) (by decide) (by decide) (by exact Nat.lt_of_lt_of_le (by decide : 2000 < 2 ^ 20) (Nat.pow_le_pow_right (by decide) (by decide))))
            have m2 := mulS (st := s) (a := (hh : Int)) (b := 60) (by omega) (by omega) (by decide) (by decide)
            have ec : (d : Int) * 1440 + (hh : Int) * 60 + (mm : Int) = ((d * 1440 + hh * 60 + mm : Nat) : Int) := by omega
            dsimp only
            by_cases hg : 1000000000 < d * 1440 + hh * 60 + mm
            · rw [if_pos hg]
              have hg' : (1000000000 : Int) < ((d * 1440 + hh * 60 + mm : Nat) : Int) ↔ True := ⟨fun _ => trivial, fun _ => by omega⟩
              generalize d * 1440 + hh * 60 + mm = Z at *
              simp [Cread, rv, mk, sp, na, rvb, mkp, pa, t1, t2, m1, m2, ec, hg', outT]
            · rw [if_neg hg]
              have hg' : (1000000000 : Int) < ((d * 1440 + hh * 60 + mm : Nat) : Int) ↔ False := ⟨fun z => hg (by omega), False.elim⟩
              generalize d * 1440 + hh * 60 + mm = Z at *
              simp [Cread, rv, mk, sp, na, rvb, mkp, pa, t1, t2, m1, m2, ec, hg', outT]
  · have h2' : (ws.length : Int) = 2 ↔ False := ⟨fun z => h2 (by omega), False.elim⟩
    have e : (match ws with
      | [a, b] => tailT (numOf a) b
      | _ => none) = none := by
      split
      · exact absurd rfl h2
      · rfl
    rw [e]
    have ln : biW true .len [.lst (ws.map .str)] s = .ok (.int ws.length) s := by rw [bi_lenL, List.length_map]
    simp [Cread, rv, mk, sp, ln, h2', outT]
/-! ### show_time -/
def Cshow : Ss :=
  .cons (.setT [1, 2] (.bi true .divmod (.cons (.v 0) (.cons (.k (.int 1440)) .nil)))) <|
  .cons (.setT [3, 4] (.bi true .divmod (.cons (.v 2) (.cons (.k (.int 60)) .nil)))) <|
  .cons (.ret (.op .add (.op .add (.op .add (.op .add (.bi true .str (.cons (.v 1) .nil)) (.k (.str [32]))) (.meth true (.bi true .str (.cons (.v 3) .nil)) .zfill (.cons (.k (.int 2)) .nil))) (.k (.str [58]))) (.meth true (.bi true .str (.cons (.v 4) .nil)) .zfill (.cons (.k (.int 2)) .nil)))) .nil
def z2 (n : Nat) : List Nat := [48 + n / 10, 48 + n % 10]
def showT (t : Nat) : List Nat := numL (t / 1440) ++ [32] ++ z2 (t % 1440 / 60) ++ [58] ++ z2 (t % 1440 % 60)
theorem zf_all : ∀ n : Fin 60, uS (PySem.Txt.zfill (sS (numL n.val)) 2) = z2 n.val := by decide +kernel
theorem zf {s : St} {n : Nat} (h : n < 60) : methW true .zfill (.str (numL n)) [.int 2] s = .ok (.str (z2 n)) s := by
  show (if PySem.PadOk 2 = true then R.ok (W.str (uS (PySem.Txt.zfill (sS (numL n)) 2))) s else .bad) = _
  rw [if_pos (by decide), zf_all ⟨n, h⟩]
theorem show_sp (h : g.fns[i]? = some ⟨1, 5, Cshow, .raw⟩) (k : Nat) (t : Nat) (s : St) (hl : t < 10 ^ 60) : callF g (k + 1) i [.int t] s = .ok (.str (showT t)) s := by
  rw [call_eq h rfl]
  have d1 : biW true .divmod [.int (t : Int), .int 1440] s = .ok (.tup [.int ((t / 1440 : Nat) : Int), .int ((t % 1440 : Nat) : Int)]) s := rfl
  have d2 : biW true .divmod [.int ((t % 1440 : Nat) : Int), .int 60] s = .ok (.tup [.int ((t % 1440 / 60 : Nat) : Int), .int ((t % 1440 % 60 : Nat) : Int)]) s := rfl
  have lo : ∀ a b, listOf s (.tup [a, b]) = some [a, b] := fun _ _ => rfl
  have hd : t / 1440 < 10 ^ 60 := Nat.lt_of_le_of_lt (Nat.div_le_self _ _) hl
  have p60 : (10 : Nat) ^ 60 < 2 ^ 1900 := Nat.lt_of_lt_of_le (by decide : (10 : Nat) ^ 60 < 2 ^ 200) (Nat.pow_le_pow_right (by decide) (by decide))
  have s1 := bi_str (fz := true) (s := s) (n := t / 1440) (by omega)
  have s2 := bi_str (fz := true) (s := s) (n := t % 1440 / 60) (by omega)
  have s3 := bi_str (fz := true) (s := s) (n := t % 1440 % 60) (by omega)
  have l1 := numL_len (n := t / 1440) (k := 60) (by decide) hd
  have z1 := zf (s := s) (n := t % 1440 / 60) (by omega)
  have zz2 := zf (s := s) (n := t % 1440 % 60) (by omega)
  have l2 : (z2 (t % 1440 / 60)).length = 2 := rfl
  have l3 : (z2 (t % 1440 % 60)).length = 2 := rfl
  unfold showT
  generalize t / 1440 = D at *
  generalize t % 1440 / 60 = Hh at *
  generalize t % 1440 % 60 = M at *
  generalize t % 1440 = Rr at *
  generalize numL D = sD at *
  have rv1 : recv s (.str (numL Hh)) = some .str := rfl
  have rv2 : recv s (.str (numL M)) = some .str := rfl
  generalize numL Hh = sH at *
  generalize numL M = sM at *
  generalize z2 Hh = zH at *
  generalize z2 M = zM at *
  have mz : mok .str .zfill = true := rfl
  have a1 := addS (s := s) (a := sD) (b := [32]) (by simp; show _ ≤ 16777216; omega)
  have a2 := addS (s := s) (a := sD ++ [32]) (b := zH) (by simp; show _ ≤ 16777216; omega)
  have a3 := addS (s := s) (a := sD ++ [32] ++ zH) (b := [58]) (by simp; show _ ≤ 16777216; omega)
  have a4 := addS (s := s) (a := sD ++ [32] ++ zH ++ [58]) (b := zM) (by simp; show _ ≤ 16777216; omega)
  generalize sD ++ [32] = X1 at *
  generalize X1 ++ zH = X2 at *
  generalize X2 ++ [58] = X3 at *
  generalize X3 ++ zM = X4 at *
  simp [Cshow, d1, d2, lo, setMany, s1, s2, s3, rv1, rv2, mz, z1, zz2, a1, a2, a3, a4]
theorem two_all24 : ∀ n : Fin 24, twoF (z2 n.val) 24 = some n.val := by decide +kernel
theorem two_all60 : ∀ n : Fin 60, twoF (z2 n.val) 60 = some n.val := by decide +kernel
theorem z2_free {n c : Nat} (h : n < 100) (hc : c < 48 ∨ 57 < c) : c ∉ z2 n := by
  unfold z2
  simp only [List.mem_cons, List.not_mem_nil, or_false]
  omega
theorem read_show {t : Nat} (h : t ≤ 1000000000) : readT (showT t) = some t := by
  have e : showT t = numL (t / 1440) ++ ([32] ++ (z2 (t % 1440 / 60) ++ ([58] ++ z2 (t % 1440 % 60)))) := by unfold showT; simp
  have f1 : 32 ∉ numL (t / 1440) := numL_free (by decide)
  have f2 : 32 ∉ z2 (t % 1440 / 60) ++ ([58] ++ z2 (t % 1440 % 60)) := by
    intro m
    rcases List.mem_append.mp m with m | m
    · exact z2_free (by omega) (by decide) m
    · rcases List.mem_append.mp m with m | m
      · simp at m
      · exact z2_free (by omega) (by decide) m
  have sp : TL.spl [32] 0 [] (showT t) = [numL (t / 1440), z2 (t % 1440 / 60) ++ ([58] ++ z2 (t % 1440 % 60))] := by
    rw [e]
    have := TL.spl_part1 (s := 32) (S := []) (p := numL (t / 1440)) (rest := z2 (t % 1440 / 60) ++ ([58] ++ z2 (t % 1440 % 60))) (acc := []) f1
    rw [List.nil_append] at this
    refine this.trans ?_
    rw [TL.spl_last1 f2, List.nil_append]
  unfold readT
  rw [sp]
  show tailT (numOf (numL (t / 1440))) (z2 (t % 1440 / 60) ++ ([58] ++ z2 (t % 1440 % 60))) = some t
  have ct : cutAt 58 (z2 (t % 1440 / 60) ++ ([58] ++ z2 (t % 1440 % 60))) = (z2 (t % 1440 / 60), [58], z2 (t % 1440 % 60)) := by
    unfold cutAt
    have := TL.par_part1 (s := 58) (S := []) (p := z2 (t % 1440 / 60)) (rest := z2 (t % 1440 % 60)) (acc := []) (z2_free (by omega) (by decide))
    rw [List.nil_append] at this
    rw [show TL.par [58] [] (z2 (t % 1440 / 60) ++ ([58] ++ z2 (t % 1440 % 60))) = _ from this]
  unfold tailT
  rw [ct]
  have l1 := numL_len (n := t / 1440) (k := 60) (by decide) (by have : t / 1440 ≤ t := Nat.div_le_self _ _; omega)
  rw [two_all24 ⟨t % 1440 / 60, by omega⟩, two_all60 ⟨t % 1440 % 60, by omega⟩, numOf_num l1]
  dsimp only
  rw [show t / 1440 * 1440 + t % 1440 / 60 * 60 + t % 1440 % 60 = t by omega, if_neg (by omega)]
end
end Px

set_option linter.all false
set_option maxRecDepth 100000
set_option maxHeartbeats 0
/-! Px21: words, signed numbers, readings as texts -/
namespace Px
open PySem
theorem numS_neg (m : Nat) : numS (Int.negSucc m) = 45 :: numL (m + 1) := by
  have e : toString (Int.negSucc m) = "-" ++ Nat.repr (m + 1) := rfl
  show (PySem.Str.ofString (toString (Int.negSucc m))).cps.toList = _
  rw [e, PySem.Str.ofString_eq_toList]
  show ((("-" ++ Nat.repr (m + 1)).toList.map Char.toNat).toArray).toList = _
  rw [String.toList_append, Nat.toList_repr]
  rfl
/-- the text of a whole number -/
def intL (i : Int) : List Nat := numS i
theorem intL_nat (n : Nat) : intL (n : Int) = numL n := numS_nat n
theorem intL_neg (m : Nat) : intL (Int.negSucc m) = 45 :: numL (m + 1) := numS_neg m
theorem bi_strI {fz : Bool} {s : St} {i : Int} (h : i.natAbs < 2 ^ 1900) : biW fz .str [.int i] s = .ok (.str (intL i)) s := by
  have h2 : i.natAbs.log2 < 1920 := by
    by_cases h0 : i.natAbs = 0
    · rw [h0]; decide
    · exact Nat.lt_of_lt_of_le ((Nat.log2_lt h0).mpr h) (by decide)
  show (if i.natAbs.log2 < 1920 then R.ok (W.str (numS i)) s else .bad) = _
  rw [if_pos h2]; rfl
theorem intL_len {i : Int} {k : Nat} (hk : 0 < k) (h : i.natAbs < 10 ^ k) : (intL i).length ≤ k + 1 := by
  cases i with
  | ofNat n => 
    have := numL_len (n := n) hk h
    show (intL (n : Int)).length ≤ _
    rw [intL_nat]; omega
  | negSucc m =>
    have := numL_len (n := m + 1) hk h
    rw [intL_neg, List.length_cons]; omega
theorem intL_free {i : Int} {s : Nat} (h : s < 45 ∨ 57 < s) : s ∉ intL i := by
  cases i with
  | ofNat n =>
    show s ∉ intL (n : Int)
    rw [intL_nat]
    exact numL_free (by omega)
  | negSucc m =>
    rw [intL_neg]
    intro e
    rcases List.mem_cons.mp e with e | e
    · omega
    · exact numL_free (by omega) e
/-- a number, perhaps with a sign below 0 -/
def sgnOf (w : List Nat) : Option Int := if w.take 1 = [45] then (match numOf (w.drop 1) with
    | some n => if n = 0 then none else some (0 - (n : Int))
    | none => none) else (match numOf w with
    | some n => some (n : Int)
    | none => none)
def oI : Option Int → W
  | none => .non
  | some i => .int i
theorem sgnOf_int {i : Int} (h : i.natAbs < 10 ^ 60) : sgnOf (intL i) = some i := by
  unfold sgnOf
  cases i with
  | ofNat n =>
    show (if (intL (n : Int)).take 1 = [45] then _ else _) = some (n : Int)
    have hl := numL_len (n := n) (k := 60) (by decide) h
    rw [intL_nat, if_neg, show numOf (intL (Int.ofNat n)) = numOf (numL n) from congrArg numOf (intL_nat n), numOf_num hl]
    intro e
    have : 45 ∈ (numL n).take 1 := by rw [e]; simp
    exact numL_free (n := n) (s := 45) (by decide) (List.mem_of_mem_take this)
  | negSucc m =>
    have hl := numL_len (n := m + 1) (k := 60) (by decide) h
    rw [intL_neg, if_pos (show List.take 1 (45 :: numL (m + 1)) = [45] from rfl)]
    show (match numOf (numL (m + 1)) with
    | some n => if n = 0 then none else some (0 - (n : Int))
    | none => none) = _
    rw [numOf_num hl]
    dsimp only
    rw [if_neg (by omega)]
    have : (0 : Int) - ((m + 1 : Nat) : Int) = Int.negSucc m := by omega
    rw [this]
theorem sgnOf_lt {w : List Nat} {i : Int} (h : sgnOf w = some i) : i.natAbs < 10 ^ 60 := by
  unfold sgnOf at h
  split at h
  · split at h
    · rename_i n e
      split at h
      · cases h
      · cases h
        have := numOf_lt e
        omega
    · cases h
  · split at h
    · rename_i n e
      cases h
      have := numOf_lt e
      omega
    · cases h
/-! ### words -/
def keyL : List (List Nat) := [[109, 97, 114, 107], [102, 105, 108, 108], [104, 101, 114, 101], [98, 97, 99, 107], [111, 110], [97, 116], [97, 103, 111], [117, 110, 116, 105, 108], [97, 98, 115], [97, 110, 100], [111, 114], [110, 111, 116]]
def isLet (c : Nat) : Bool := decide (97 ≤ c) && decide (c ≤ 122)
def isWord (w : List Nat) : Bool := !(decide (w ∈ keyL)) && decide (1 ≤ w.length) && decide (w.length ≤ 8) && w.all isLet
theorem let_mem (c : Nat) : decide (c ∈ [97, 98, 99, 100, 101, 102, 103, 104, 105, 106, 107, 108, 109, 110, 111, 112, 113, 114, 115, 116, 117, 118, 119, 120, 121, 122]) = isLet c := by
  rw [Bool.eq_iff_iff]
  unfold isLet
  simp only [decide_eq_true_eq, Bool.and_eq_true, List.mem_cons, List.not_mem_nil, or_false]
  omega
section
variable {g : Gd} {i iN iT iR iW iS x : Nat}
def Cisw : Ss :=
  .cons (.ite (.or_ (.not_ (.isi (.v 0) [.str])) (.or_ (.op .in_ (.v 0) (.k (.tup [.str [109, 97, 114, 107], .str [102, 105, 108, 108], .str [104, 101, 114, 101], .str [98, 97, 99, 107], .str [111, 110], .str [97, 116], .str [97, 103, 111], .str [117, 110, 116, 105, 108], .str [97, 98, 115], .str [97, 110, 100], .str [111, 114], .str [110, 111, 116]]))) (.or_ (.op .lt (.bi true .len (.cons (.v 0) .nil)) (.k (.int 1))) (.op .gt (.bi true .len (.cons (.v 0) .nil)) (.k (.int 8)))))) (.cons (.ret (.k (.bl false))) .nil) (.nil)) <|
  .cons (.for_ (.one 1) (.val (.v 0)) (.cons (.ite (.op .nin (.v 1) (.k (.str [97, 98, 99, 100, 101, 102, 103, 104, 105, 106, 107, 108, 109, 110, 111, 112, 113, 114, 115, 116, 117, 118, 119, 120, 121, 122]))) (.cons (.ret (.k (.bl false))) .nil) (.nil)) .nil)) <|
  .cons (.ret (.k (.bl true))) .nil
def WordSp (g : Gd) (i : Nat) : Prop := ∀ (k : Nat) (w : List Nat) (s : St), w.length ≤ line → (∀ c ∈ w, c < 1000) → callF g (k + 1) i [.str w] s = .ok (.bl (isWord w)) s
theorem word_isp (h : g.fns[i]? = some ⟨1, 2, Cisw, .raw⟩) : WordSp g i := fun k w s hl hc => by
  rw [call_eq h rfl]
  have ln := lenS (fz := true) (s := s) hl
  have ty : isTy s (.str w) .str = some true := rfl
  have dw : dat 60 (.str w) = true := by
    show (w.all fun c => decide (c < 0x110000)) = true
    rw [List.all_eq_true]
    intro c h
    have := hc c h
    exact decide_eq_true (by omega)
  have dk : datL 59 (keyL.map W.str) = true := by decide
  have inn : inR s (.str w) (.tup (keyL.map W.str)) = some (decide (w ∈ keyL)) := by
    have e : inR s (.str w) (.tup (keyL.map W.str)) = (if dat 60 (.str w) = true ∧ datL 59 (keyL.map W.str) = true then some ((keyL.map W.str).any fun z => eqv z (.str w)) else none) := by
      cases w with
      | nil => rfl
      | cons a r => cases r <;> rfl
    rw [e, if_pos ⟨dw, dk⟩, List.any_map]
    congr 1
    rw [Bool.eq_iff_iff, List.any_eq_true]
    simp only [decide_eq_true_eq]
    constructor
    · rintro ⟨z, hz, e⟩
      have : (z == w) = true := e
      rw [← eq_of_beq this]; exact hz
    · intro h
      exact ⟨w, h, beq_self_eq_true w⟩
  have ek : W.tup (keyL.map W.str) = .tup [.str [109, 97, 114, 107], .str [102, 105, 108, 108], .str [104, 101, 114, 101], .str [98, 97, 99, 107], .str [111, 110], .str [97, 116], .str [97, 103, 111], .str [117, 110, 116, 105, 108], .str [97, 98, 115], .str [97, 110, 100], .str [111, 114], .str [110, 111, 116]] := rfl
  rw [ek] at inn
  unfold Cisw
  generalize W.tup [.str [109, 97, 114, 107], .str [102, 105, 108, 108], .str [104, 101, 114, 101], .str [98, 97, 99, 107], .str [111, 110], .str [97, 116], .str [97, 103, 111], .str [117, 110, 116, 105, 108], .str [97, 98, 115], .str [97, 110, 100], .str [111, 114], .str [110, 111, 116]] = KT at inn ⊢
  unfold isWord
  by_cases h0 : w ∈ keyL
  · have h0' : decide (w ∈ keyL) = true := decide_eq_true h0
    rw [h0'] at inn ⊢
    simp [ty, inn]
  · have h0' : decide (w ∈ keyL) = false := decide_eq_false h0
    rw [h0'] at inn ⊢
    by_cases h1 : w.length < 1
    · have h1' : (w.length : Int) < 1 ↔ True := ⟨fun _ => trivial, fun _ => by omega⟩
      have h1'' : decide (1 ≤ w.length) = false := decide_eq_false (by omega)
      rw [h1'']
      generalize hL : (w.length : Int) = Lw at *
      simp [ty, inn, ln, h1']
    · have h1' : (w.length : Int) < 1 ↔ False := ⟨fun z => by omega, False.elim⟩
      have h1'' : decide (1 ≤ w.length) = true := decide_eq_true (by omega)
      rw [h1'']
      by_cases h2 : 8 < w.length
      · have h2' : (8 : Int) < (w.length : Int) ↔ True := ⟨fun _ => trivial, fun _ => by omega⟩
        have h2'' : decide (w.length ≤ 8) = false := decide_eq_false (by omega)
        rw [h2'']
        generalize hL : (w.length : Int) = Lw at *
        simp [ty, inn, ln, h1', h2']
      · have h2' : (8 : Int) < (w.length : Int) ↔ False := ⟨fun z => by omega, False.elim⟩
        have h2'' : decide (w.length ≤ 8) = true := decide_eq_true (by omega)
        rw [h2'']
        have ew : walkVal s (.str w) = some ⟨w.map fun c => .str [c], fun _ => True⟩ := rfl
        have body : ∀ (c : Nat) (A : Option W), evSs (callF g k) (mkF g k) (mtF g) g.xf g.xfl (.cons (.ite (.op .nin (.v 1) (.k (.str [97, 98, 99, 100, 101, 102, 103, 104, 105, 106, 107, 108, 109, 110, 111, 112, 113, 114, 115, 116, 117, 118, 119, 120, 121, 122]))) (.cons (.ret (.k (.bl false))) .nil) (.nil)) .nil) [A, some (.str [c])] s = if isLet c = true then .nx [A, some (.str [c])] s else .ret (.bl false) s := fun c A => by
          have e1 : inR s (.str [c]) (.str [97, 98, 99, 100, 101, 102, 103, 104, 105, 106, 107, 108, 109, 110, 111, 112, 113, 114, 115, 116, 117, 118, 119, 120, 121, 122]) = some (isLet c) := by rw [← let_mem c]; rfl
          cases h2 : isLet c <;> rw [h2] at e1 <;> simp [e1]
        have loop : ∀ (l : List Nat) (A x : Option W), (l.all isLet = true → ∃ x', forL (fun _ => True) (.one 1) (evSs (callF g k) (mkF g k) (mtF g) g.xf g.xfl (.cons (.ite (.op .nin (.v 1) (.k (.str [97, 98, 99, 100, 101, 102, 103, 104, 105, 106, 107, 108, 109, 110, 111, 112, 113, 114, 115, 116, 117, 118, 119, 120, 121, 122]))) (.cons (.ret (.k (.bl false))) .nil) (.nil)) .nil)) (l.map fun c => .str [c]) [A, x] s = .nx [A, x'] s) ∧
            (l.all isLet = false → forL (fun _ => True) (.one 1) (evSs (callF g k) (mkF g k) (mtF g) g.xf g.xfl (.cons (.ite (.op .nin (.v 1) (.k (.str [97, 98, 99, 100, 101, 102, 103, 104, 105, 106, 107, 108, 109, 110, 111, 112, 113, 114, 115, 116, 117, 118, 119, 120, 121, 122]))) (.cons (.ret (.k (.bl false))) .nil) (.nil)) .nil)) (l.map fun c => .str [c]) [A, x] s = .ret (.bl false) s) := by
          intro l
          induction l with
          | nil => intro A x; exact ⟨fun _ => ⟨x, by simp⟩, fun z => by cases z⟩
          | cons c l ih =>
            intro A x
            have st := body c A
            have e0 : [A, x].set 1 (some (W.str [c])) = [A, some (.str [c])] := rfl
            rw [List.map_cons, forL_cons trivial rfl, e0, st, List.all_cons]
            cases h2 : isLet c with
            | true =>
              rw [if_pos rfl]
              obtain ⟨i1, i2⟩ := ih A (some (.str [c]))
              exact ⟨fun z => i1 z, fun z => i2 z⟩
            | false =>
              rw [if_neg (by decide)]
              exact ⟨fun z => (by cases z), fun _ => rfl⟩
        cases ha : w.all isLet with
        | false =>
          have e := (loop w (some (.str w)) none).2 ha
          generalize (Ss.cons (.ite (.op .nin (.v 1) (.k (.str [97, 98, 99, 100, 101, 102, 103, 104, 105, 106, 107, 108, 109, 110, 111, 112, 113, 114, 115, 116, 117, 118, 119, 120, 121, 122]))) (.cons (.ret (.k (.bl false))) .nil) (.nil)) .nil) = B at e ⊢
          generalize hL : (w.length : Int) = Lw at *
          simp [ty, inn, ln, h1', h2', ew, e]
        | true =>
          obtain ⟨x', e⟩ := (loop w (some (.str w)) none).1 ha
          generalize (Ss.cons (.ite (.op .nin (.v 1) (.k (.str [97, 98, 99, 100, 101, 102, 103, 104, 105, 106, 107, 108, 109, 110, 111, 112, 113, 114, 115, 116, 117, 118, 119, 120, 121, 122]))) (.cons (.ret (.k (.bl false))) .nil) (.nil)) .nil) = B at e ⊢
          generalize hL : (w.length : Int) = Lw at *
          simp [ty, inn, ln, h1', h2', ew, e]
/-! ### signed numbers -/
def Csgn (iN : Nat) : Ss :=
  .cons (.ite (.op .ne (.sl true (.v 0) (.nil) (.cons (.k (.int 1)) .nil)) (.k (.str [45]))) (.cons (.ret (.call iN (.cons (.v 0) .nil) [])) .nil) (.nil)) <|
  .cons (.set 1 (.call iN (.cons (.sl true (.v 0) (.cons (.k (.int 1)) .nil) (.nil)) .nil) [])) <|
  .cons (.ite (.or_ (.op .is_ (.v 1) (.k (.non))) (.op .eq (.v 1) (.k (.int 0)))) (.cons (.ret (.k (.non))) .nil) (.nil)) <|
  .cons (.ret (.op .sub (.k (.int 0)) (.v 1))) .nil
theorem cut_take (l : List Nat) : cut l none (some 1) = l.take 1 := by
  unfold cut
  cases l with
  | nil => rfl
  | cons a r =>
    have e1 : HT.sIx (a :: r).length 0 none = 0 := rfl
    have e3 : HT.sIx (a :: r).length (a :: r).length (some 1) = 1 := by simp [HT.sIx] <;> omega
    rw [e1, e3]
    rfl
theorem cut_drop (l : List Nat) : cut l (some 1) none = l.drop 1 := by
  unfold cut
  cases l with
  | nil => rfl
  | cons a r =>
    have e1 : HT.sIx (a :: r).length 0 (some 1) = 1 := by simp [HT.sIx] <;> omega
    have e2 : HT.sIx (a :: r).length (a :: r).length none = (a :: r).length := rfl
    rw [e1, e2]
    exact List.take_of_length_le (by simp)
theorem sgn_sp (h : g.fns[i]? = some ⟨1, 2, Csgn iN, .raw⟩) (N : NumSp g iN) (k : Nat) (w : List Nat) (s : St) (hl : w.length ≤ line) : callF g (k + 2) i [.str w] s = .ok (oI (sgnOf w)) s := by
  rw [call_eq h rfl]
  have s1 : slW true s (.str w) none (some 1) = .ok (.str (w.take 1)) s := by
    show (if w.length ≤ line then R.ok (W.str (cut w none (some 1))) s else .bad) = _
    rw [if_pos hl, cut_take]
  have s2 : slW true s (.str w) (some 1) none = .ok (.str (w.drop 1)) s := by
    show (if w.length ≤ line then R.ok (W.str (cut w (some 1) none)) s else .bad) = _
    rw [if_pos hl, cut_drop]
  have n1 := N k w s hl
  have n2 := N k (w.drop 1) s (by rw [List.length_drop]; omega)
  unfold sgnOf
  by_cases h1 : w.take 1 = [45]
  · rw [if_pos h1]
    rw [h1] at s1
    cases e : numOf (w.drop 1) with
    | none =>
      rw [e] at n2
      rw [show oN none = W.non from rfl] at n2
      generalize w.drop 1 = w1 at *
      simp [Csgn, s1, s2, n2, oI]
    | some n =>
      rw [e] at n2
      rw [show oN (some n) = W.int n from rfl] at n2
      generalize w.drop 1 = w1 at *
      by_cases hz : n = 0
      · subst hz
        simp [Csgn, s1, s2, n2, oI]
      · have hz' : (n : Int) = 0 ↔ False := ⟨fun z => hz (by omega), False.elim⟩
        simp [Csgn, s1, s2, n2, oI, hz, hz']
  · rw [if_neg h1]
    generalize w.take 1 = w0 at *
    have h1' : w0 = [45] ↔ False := ⟨h1, False.elim⟩
    cases e : numOf w with
    | none =>
      rw [e] at n1
      rw [show oN none = W.non from rfl] at n1
      simp [Csgn, s1, n1, h1', oI]
    | some n =>
      rw [e] at n1
      rw [show oN (some n) = W.int n from rfl] at n1
      simp [Csgn, s1, n1, h1', oI]
end
end Px

set_option linter.all false
set_option maxRecDepth 100000
set_option maxHeartbeats 0
/-! Px22: readings read and written -/
namespace Px
open PySem
/-- behind a reading's word -/
def r5 (ok : Bool) (a b c d : List Nat) : Option (Nat × Nat × Int) :=
  if ok = false then none else match readT (a ++ [32] ++ b), numOf c, sgnOf d with
    | some t, some u, some n => if 1000000000 < u then none else some (t, u, n)
    | _, _, _ => none
def pickR : List (List Nat) → Option (List Nat × Nat × Nat × Int)
  | [w, a, b, c, d] => (match r5 (isWord w) a b c d with
    | some (x, u, n) => some (w, x, u, n)
    | none => none)
  | _ => none
theorem pickR_ne {ws : List (List Nat)} (h : ¬ ws.length = 5) : pickR ws = none := by
  unfold pickR
  split
  · exact absurd rfl h
  · rfl
def readR (t : List Nat) : Option (List Nat × Nat × Nat × Int) := pickR (TL.spl [32] 0 [] t)
def wRd (r : List Nat × Nat × Nat × Int) : W := .tup [.str r.1, .int r.2.1, .int r.2.2.1, .int r.2.2.2]
def outR (x : Nat) (s : St) : Option (List Nat × Nat × Nat × Int) → R W
  | some r => .ok (wRd r) s
  | none => .exc x [.int 1] s
theorem spl_mem {S : List Nat} : ∀ (k : Nat) (acc l p : List Nat), p ∈ TL.spl S k acc l → ∀ c ∈ p, c ∈ acc ∨ c ∈ l
  | k, acc, [], p, h, c, hc => by rw [TL.spl_nil] at h; rw [List.mem_singleton.mp h] at hc; exact .inl hc
  | 0, acc, d :: r, p, h, c, hc => by
    unfold TL.spl at h
    split at h
    · rcases List.mem_cons.mp h with e | h
      · rw [e] at hc; exact .inl hc
      · rcases spl_mem _ [] r p h c hc with z | z
        · cases z
        · exact .inr (List.mem_cons_of_mem _ z)
    · rcases spl_mem 0 (acc ++ [d]) r p h c hc with z | z
      · rcases List.mem_append.mp z with z | z
        · exact .inl z
        · rw [List.mem_singleton.mp z]; exact .inr List.mem_cons_self
      · exact .inr (List.mem_cons_of_mem _ z)
  | k + 1, acc, d :: r, p, h, c, hc => by
    unfold TL.spl at h
    rcases spl_mem k acc r p h c hc with z | z
    · exact .inl z
    · exact .inr (List.mem_cons_of_mem _ z)
section
variable {g : Gd} {i iN iT iW iS x : Nat}
def CreadR (iN iT iW iS x : Nat) : Ss :=
  .cons (.set 1 (.meth true (.v 0) .split (.cons (.k (.str [32])) .nil))) <|
  .cons (.ite (.or_ (.op .ne (.bi true .len (.cons (.v 1) .nil)) (.k (.int 5))) (.not_ (.call iW (.cons (.ix (.v 1) (.k (.int 0))) .nil) []))) (.cons (.rse x (.cons (.k (.int 1)) .nil)) .nil) (.nil)) <|
  .cons (.set 2 (.call iT (.cons (.op .add (.op .add (.ix (.v 1) (.k (.int 1))) (.k (.str [32]))) (.ix (.v 1) (.k (.int 2)))) .nil) [])) <|
  .cons (.set 3 (.call iN (.cons (.ix (.v 1) (.k (.int 3))) .nil) [])) <|
  .cons (.set 4 (.call iS (.cons (.ix (.v 1) (.k (.int 4))) .nil) [])) <|
  .cons (.ite (.or_ (.op .is_ (.v 3) (.k (.non))) (.or_ (.op .gt (.v 3) (.k (.int 1000000000))) (.op .is_ (.v 4) (.k (.non))))) (.cons (.rse x (.cons (.k (.int 1)) .nil)) .nil) (.nil)) <|
  .cons (.ret (.tup (.cons (.ix (.v 1) (.k (.int 0))) (.cons (.v 2) (.cons (.v 3) (.cons (.v 4) .nil)))))) .nil
def ReadSp (g : Gd) (i x : Nat) : Prop := ∀ (k : Nat) (t : List Nat) (s : St), t.length + 2 ≤ line → callF g (k + 3) i [.str t] s = outT x s (readT t)
def SgnSp (g : Gd) (i : Nat) : Prop := ∀ (k : Nat) (w : List Nat) (s : St), w.length ≤ line → callF g (k + 2) i [.str w] s = .ok (oI (sgnOf w)) s
theorem readR_sp (h : g.fns[i]? = some ⟨1, 5, CreadR iN iT iW iS x, .raw⟩) (N : NumSp g iN) (T : ReadSp g iT x) (Ws : WordSp g iW) (Sg : SgnSp g iS) (k : Nat) (t : List Nat) (s : St) (hl : t.length + 1000 ≤ line) (hc : ∀ c ∈ t, c < 1000) : callF g (k + 4) i [.str t] s = outR x s (readR t) := by
  rw [call_eq h rfl]
  have hl0 : t.length + 1000 ≤ 16777216 := hl
  have rv : recv s (.str t) = some .str := rfl
  have mk : mok .str .split = true := rfl
  have sp := m_split (s := s) (t := t) (c := 32) (by decide) (by show _ ≤ 16777216; omega)
  have ls := fun p h => spl_len (S := [32]) 0 [] t p h
  have lm := fun p h => spl_mem (S := [32]) 0 [] t p h
  have lsum : ∀ ws, TL.spl [32] 0 [] t = ws → (ws.map List.length).sum + ws.length ≤ t.length + 1 := by
    intro ws e
    subst e
    have key : ∀ (l acc : List Nat), ((TL.spl [32] 0 acc l).map List.length).sum + (TL.spl [32] 0 acc l).length ≤ acc.length + l.length + 1 := by
      intro l
      induction l with
      | nil => intro acc; rw [TL.spl_nil]; simp
      | cons d r ih =>
        intro acc
        unfold TL.spl
        split
        · have := ih []
          simp only [List.map_cons, List.sum_cons, List.length_cons, List.length_nil, Nat.zero_add, Nat.sub_self] at this ⊢
          omega
        · have := ih (acc ++ [d])
          simp only [List.length_append, List.length_cons, List.length_nil] at this ⊢
          omega
    have := key t []
    simpa using this
  unfold readR
  generalize hws : TL.spl [32] 0 [] t = ws at sp ls lm
  have lsum := lsum ws hws
  by_cases h5 : ws.length = 5
  · match ws, h5 with
    | [w, a, b, c, d], _ =>
      have lw := ls w (by simp)
      have lc := ls c (by simp)
      have ld := ls d (by simp)
      simp only [List.length_nil, Nat.zero_add] at lw lc ld
      simp only [List.map_cons, List.map_nil, List.sum_cons, List.sum_nil, List.length_cons, List.length_nil] at sp lsum
      have wd := Ws (k + 2) w s (by show _ ≤ 16777216; omega) (fun e he => (lm w (by simp) e he).elim (fun z => by cases z) (fun z => hc e z))
      have a1 := addS (s := s) (a := a) (b := [32]) (by show _ + 1 ≤ 16777216; omega)
      have a2 := addS (s := s) (a := a ++ [32]) (b := b) (by show _ ≤ 16777216; simp; omega)
      have tr := T k (a ++ [32] ++ b) s (by show _ ≤ 16777216; simp; omega)
      have nc := N (k + 2) c s (by show _ ≤ 16777216; omega)
      have nd := Sg (k + 1) d s (by show _ ≤ 16777216; omega)
      show _ = outR x s (match r5 (isWord w) a b c d with
        | some (x, u, n) => some (w, x, u, n)
        | none => none)
      unfold r5
      have i0 : ixW s (.lst [.str w, .str a, .str b, .str c, .str d]) (.int 0) = .ok (.str w) s := rfl
      have i1 : ixW s (.lst [.str w, .str a, .str b, .str c, .str d]) (.int 1) = .ok (.str a) s := rfl
      have i2 : ixW s (.lst [.str w, .str a, .str b, .str c, .str d]) (.int 2) = .ok (.str b) s := rfl
      have i3 : ixW s (.lst [.str w, .str a, .str b, .str c, .str d]) (.int 3) = .ok (.str c) s := rfl
      have i4 : ixW s (.lst [.str w, .str a, .str b, .str c, .str d]) (.int 4) = .ok (.str d) s := rfl
      have ln : biW true .len [.lst [.str w, .str a, .str b, .str c, .str d]] s = .ok (.int 5) s := rfl
      generalize W.lst [.str w, .str a, .str b, .str c, .str d] = LW at *
      generalize a ++ [32] ++ b = ab at *
      generalize a ++ [32] = aa at *
      have wd : callF g (k + 3) iW [.str w] s = .ok (.bl (isWord w)) s := wd
      have nc : callF g (k + 3) iN [.str c] s = .ok (oN (numOf c)) s := nc
      have nd : callF g (k + 3) iS [.str d] s = .ok (oI (sgnOf d)) s := nd
      have tr : callF g (k + 3) iT [.str ab] s = outT x s (readT ab) := tr
      generalize isWord w = ok at *
      cases ok with
      | false =>
        rw [if_pos rfl]
        simp [CreadR, rv, mk, sp, ln, i0, wd, outR]
      | true =>
        rw [if_neg (by decide)]
        cases e1 : readT ab with
        | none =>
          rw [e1] at tr
          rw [show outT x s none = .exc x [.int 1] s from rfl] at tr
          simp [CreadR, rv, mk, sp, ln, i0, i1, i2, wd, a1, a2, tr, outR]
        | some tt =>
          rw [e1] at tr
          rw [show outT x s (some tt) = .ok (.int tt) s from rfl] at tr
          cases e2 : numOf c with
          | none =>
            rw [e2] at nc
            rw [show oN none = W.non from rfl] at nc
            cases e3 : sgnOf d with
            | none =>
              rw [e3] at nd
              rw [show oI none = W.non from rfl] at nd
              simp [CreadR, rv, mk, sp, ln, i0, i1, i2, i3, i4, wd, a1, a2, tr, nc, nd, outR]
            | some n =>
              rw [e3] at nd
              rw [show oI (some n) = W.int n from rfl] at nd
              simp [CreadR, rv, mk, sp, ln, i0, i1, i2, i3, i4, wd, a1, a2, tr, nc, nd, outR]
          | some u =>
            rw [e2] at nc
            rw [show oN (some u) = W.int u from rfl] at nc
            by_cases hu : 1000000000 < u
            · have hu' : (1000000000 : Int) < (u : Int) ↔ True := ⟨fun _ => trivial, fun _ => by omega⟩
              cases e3 : sgnOf d with
              | none =>
                rw [e3] at nd
                rw [show oI none = W.non from rfl] at nd
                simp [CreadR, rv, mk, sp, ln, i0, i1, i2, i3, i4, wd, a1, a2, tr, nc, nd, outR, hu']
              | some n =>
                rw [e3] at nd
                rw [show oI (some n) = W.int n from rfl] at nd
                simp [CreadR, rv, mk, sp, ln, i0, i1, i2, i3, i4, wd, a1, a2, tr, nc, nd, outR, hu, hu']
            · have hu' : (1000000000 : Int) < (u : Int) ↔ False := ⟨fun z => hu (by omega), False.elim⟩
              cases e3 : sgnOf d with
              | none =>
                rw [e3] at nd
                rw [show oI none = W.non from rfl] at nd
                simp [CreadR, rv, mk, sp, ln, i0, i1, i2, i3, i4, wd, a1, a2, tr, nc, nd, outR, hu']
              | some n =>
                rw [e3] at nd
                rw [show oI (some n) = W.int n from rfl] at nd
                simp [CreadR, rv, mk, sp, ln, i0, i1, i2, i3, i4, wd, a1, a2, tr, nc, nd, outR, hu, hu', wRd]
  · have h5' : (ws.length : Int) = 5 ↔ False := ⟨fun z => h5 (by omega), False.elim⟩
    rw [pickR_ne h5]
    have ln : biW true .len [.lst (ws.map .str)] s = .ok (.int ws.length) s := by rw [bi_lenL, List.length_map]
    generalize W.lst (ws.map .str) = LW at *
    simp [CreadR, rv, mk, sp, ln, h5', outR]
/-! ### written -/
def CshowR (iT : Nat) : Ss :=
  .cons (.ret (.op .add (.op .add (.op .add (.op .add (.op .add (.op .add (.ix (.v 0) (.k (.int 0))) (.k (.str [32]))) (.call iT (.cons (.ix (.v 0) (.k (.int 1))) .nil) [])) (.k (.str [32]))) (.bi true .str (.cons (.ix (.v 0) (.k (.int 2))) .nil))) (.k (.str [32]))) (.bi true .str (.cons (.ix (.v 0) (.k (.int 3))) .nil)))) .nil
def showR (r : List Nat × Nat × Nat × Int) : List Nat := r.1 ++ [32] ++ showT r.2.1 ++ [32] ++ numL r.2.2.1 ++ [32] ++ intL r.2.2.2
theorem showT_len {t : Nat} (h : t < 10 ^ 60) : (showT t).length ≤ 66 := by
  have := numL_len (n := t / 1440) (k := 60) (by decide) (Nat.lt_of_le_of_lt (Nat.div_le_self _ _) h)
  unfold showT z2
  simp
  omega
/-- a reading within bounds -/
structure RdOk (r : List Nat × Nat × Nat × Int) : Prop where
  len : r.1.length ≤ 100
  t : r.2.1 < 10 ^ 60
  u : r.2.2.1 < 10 ^ 60
  n : r.2.2.2.natAbs < 10 ^ 60
theorem p60 : (10 : Nat) ^ 60 < 2 ^ 1900 := Nat.lt_of_lt_of_le (by decide : (10 : Nat) ^ 60 < 2 ^ 200) (Nat.pow_le_pow_right (by decide) (by decide))
theorem showR_sp (h : g.fns[i]? = some ⟨1, 1, CshowR iT, .raw⟩) (T : ∀ (k : Nat) (t : Nat) (s : St), t < 10 ^ 60 → callF g (k + 1) iT [.int t] s = .ok (.str (showT t)) s) (k : Nat) {r : List Nat × Nat × Nat × Int} (hr : RdOk r) (s : St) : callF g (k + 2) i [wRd r] s = .ok (.str (showR r)) s := by
  rw [call_eq h rfl]
  have i0 : ixW s (wRd r) (.int 0) = .ok (.str r.1) s := rfl
  have i1 : ixW s (wRd r) (.int 1) = .ok (.int r.2.1) s := rfl
  have i2 : ixW s (wRd r) (.int 2) = .ok (.int r.2.2.1) s := rfl
  have i3 : ixW s (wRd r) (.int 3) = .ok (.int r.2.2.2) s := rfl
  have tt := T k r.2.1 s hr.t
  have l0 := hr.len
  have l1 := showT_len hr.t
  have s2 := bi_str (fz := true) (s := s) (n := r.2.2.1) (Nat.lt_trans hr.u p60)
  have l2 := numL_len (n := r.2.2.1) (k := 60) (by decide) hr.u
  have s3 := bi_strI (fz := true) (s := s) (i := r.2.2.2) (Nat.lt_trans hr.n p60)
  have l3 := intL_len (i := r.2.2.2) (k := 60) (by decide) hr.n
  unfold showR
  generalize showT r.2.1 = T1 at *
  generalize numL r.2.2.1 = T2 at *
  generalize intL r.2.2.2 = T3 at *
  obtain ⟨w, t, u, n⟩ := r
  dsimp only at *
  have a1 := addS (s := s) (a := w) (b := [32]) (by show _ + 1 ≤ 16777216; omega)
  have q1 : (w ++ [32]).length ≤ 101 := by simp; omega
  generalize w ++ [32] = X1 at *
  have a2 := addS (s := s) (a := X1) (b := T1) (by show _ ≤ 16777216; omega)
  have q2 : (X1 ++ T1).length ≤ 167 := by simp; omega
  generalize X1 ++ T1 = X2 at *
  have a3 := addS (s := s) (a := X2) (b := [32]) (by show _ + 1 ≤ 16777216; omega)
  have q3 : (X2 ++ [32]).length ≤ 168 := by simp; omega
  generalize X2 ++ [32] = X3 at *
  have a4 := addS (s := s) (a := X3) (b := T2) (by show _ ≤ 16777216; omega)
  have q4 : (X3 ++ T2).length ≤ 228 := by simp; omega
  generalize X3 ++ T2 = X4 at *
  have a5 := addS (s := s) (a := X4) (b := [32]) (by show _ + 1 ≤ 16777216; omega)
  have q5 : (X4 ++ [32]).length ≤ 229 := by simp; omega
  generalize X4 ++ [32] = X5 at *
  have a6 := addS (s := s) (a := X5) (b := T3) (by show _ ≤ 16777216; omega)
  generalize X5 ++ T3 = X6 at *
  generalize wRd (w, t, u, n) = WR at *
  simp [CshowR, i0, i1, i2, i3, tt, s2, s3, a1, a2, a3, a4, a5, a6]
theorem spl1 {p r : List Nat} (h : 32 ∉ p) : TL.spl [32] 0 [] (p ++ 32 :: r) = p :: TL.spl [32] 0 [] r := by
  have e := TL.spl_part1 (s := 32) (S := []) (p := p) (rest := r) (acc := []) h
  rw [List.nil_append] at e
  exact e
theorem readR_show {r : List Nat × Nat × Nat × Int} (hw : isWord r.1 = true) (hf : 32 ∉ r.1) (ht : r.2.1 ≤ 1000000000) (hu : r.2.2.1 ≤ 1000000000) (hn : r.2.2.2.natAbs < 10 ^ 60) : readR (showR r) = some r := by
  obtain ⟨w, t, u, n⟩ := r
  dsimp only at *
  have fd : 32 ∉ numL (t / 1440) := numL_free (by decide)
  have fu : 32 ∉ numL u := numL_free (by decide)
  have fn : 32 ∉ intL n := intL_free (by decide)
  have fh : 32 ∉ z2 (t % 1440 / 60) ++ [58] ++ z2 (t % 1440 % 60) := by
    intro m
    rcases List.mem_append.mp m with m | m
    · rcases List.mem_append.mp m with m | m
      · exact z2_free (by omega) (by decide) m
      · simp at m
    · exact z2_free (by omega) (by decide) m
  have e : showR (w, t, u, n) = w ++ 32 :: (numL (t / 1440) ++ 32 :: ((z2 (t % 1440 / 60) ++ [58] ++ z2 (t % 1440 % 60)) ++ 32 :: (numL u ++ 32 :: intL n))) := by
    unfold showR showT; simp
  unfold readR
  rw [e, spl1 hf, spl1 fd, spl1 fh, spl1 fu, TL.spl_last1 fn, List.nil_append]
  unfold pickR
  dsimp only
  unfold r5
  rw [hw, if_neg (by decide)]
  have es : numL (t / 1440) ++ [32] ++ (z2 (t % 1440 / 60) ++ [58] ++ z2 (t % 1440 % 60)) = showT t := by unfold showT; simp
  have lu := numL_len (n := u) (k := 60) (by decide) (by omega)
  rw [es, read_show ht, numOf_num lu, sgnOf_int hn]
  dsimp only
  rw [if_neg (by omega)]
end
end Px

set_option linter.all false
set_option maxRecDepth 100000
set_option maxHeartbeats 0
/-! Px23: fractions read and written -/
namespace Px
open PySem
def plainF (w : List Nat) : Option (Nat × Nat) :=
  if (cutAt 47 w).2.1 = [] then (match numOf (cutAt 47 w).1 with
    | some t => some (t, 1)
    | none => none)
  else match numOf (cutAt 47 w).1, numOf (cutAt 47 w).2.2 with
    | some t, some b => if b < 2 then none else if Int.gcd t b = 1 then some (t, b) else none
    | _, _ => none
def readF (w : List Nat) : Option (Int × Int) := if w.take 1 = [45] then (match plainF (w.drop 1) with
    | some (t, b) => if t = 0 then none else some (0 - (t : Int), (b : Int))
    | none => none) else (match plainF w with
    | some (t, b) => some ((t : Int), (b : Int))
    | none => none)
def oP : Option (Nat × Nat) → W
  | none => .non
  | some (t, b) => fr t b
def outF (x : Nat) (s : St) : Option (Int × Int) → R W
  | some (t, b) => .ok (fr t b) s
  | none => .exc x [.int 1] s
def showF (t b : Int) : List Nat := if b = 1 then intL t else intL t ++ [47] ++ intL b
section
variable {g : Gd} {i iN iD iP x : Nat}
def Cplain (iN iD : Nat) : Ss :=
  .cons (.set 1 (.meth true (.v 0) .partition (.cons (.k (.str [47])) .nil))) <|
  .cons (.set 2 (.call iN (.cons (.ix (.v 1) (.k (.int 0))) .nil) [])) <|
  .cons (.ite (.op .eq (.ix (.v 1) (.k (.int 1))) (.k (.str []))) (.cons (.ite (.op .is_ (.v 2) (.k (.non))) (.cons (.ret (.k (.non))) .nil) (.nil)) <|
  .cons (.ret (.tup (.cons (.v 2) (.cons (.k (.int 1)) .nil)))) .nil) (.nil)) <|
  .cons (.set 3 (.call iN (.cons (.ix (.v 1) (.k (.int 2))) .nil) [])) <|
  .cons (.ite (.or_ (.op .is_ (.v 2) (.k (.non))) (.or_ (.op .is_ (.v 3) (.k (.non))) (.or_ (.op .lt (.v 3) (.k (.int 2))) (.op .ne (.call iD (.cons (.v 2) (.cons (.v 3) .nil)) []) (.k (.int 1)))))) (.cons (.ret (.k (.non))) .nil) (.nil)) <|
  .cons (.ret (.tup (.cons (.v 2) (.cons (.v 3) .nil)))) .nil
theorem oP_none : oP none = .non := rfl
theorem oP_some (t b : Nat) : oP (some (t, b)) = fr t b := rfl
theorem plain_sp (h : g.fns[i]? = some ⟨1, 4, Cplain iN iD, .raw⟩) (hd : g.fns[iD]? = some ⟨2, 5, Cdiv, .raw⟩) (N : NumSp g iN) (k : Nat) (w : List Nat) (s : St) (hl : w.length ≤ line) : callF g (k + 2) i [.str w] s = .ok (oP (plainF w)) s := by
  rw [call_eq h rfl]
  have rv : recv s (.str w) = some .str := rfl
  have mk : mok .str .partition = true := rfl
  have pa := m_part (s := s) (t := w) (c := 47) hl
  have lc := cutAt_len (c := 47) (b := w)
  unfold plainF
  have hl0 : w.length ≤ 16777216 := hl
  have n0 := N k (cutAt 47 w).1 s (by show _ ≤ 16777216; omega)
  have n2 := N k (cutAt 47 w).2.2 s (by show _ ≤ 16777216; omega)
  generalize (cutAt 47 w).1 = p0 at *
  generalize (cutAt 47 w).2.1 = p1 at *
  generalize (cutAt 47 w).2.2 = p2 at *
  have n0 : callF g (k + 1) iN [.str p0] s = .ok (oN (numOf p0)) s := n0
  have n2 : callF g (k + 1) iN [.str p2] s = .ok (oN (numOf p2)) s := n2
  by_cases h1 : p1 = []
  · rw [if_pos h1]
    have h1' : p1 = [] ↔ True := ⟨fun _ => trivial, fun _ => h1⟩
    cases e0 : numOf p0 with
    | none =>
      rw [e0] at n0
      rw [show oN none = W.non from rfl] at n0
      simp [Cplain, rv, mk, pa, n0, h1', oP_none]
    | some t =>
      rw [e0] at n0
      rw [show oN (some t) = W.int t from rfl] at n0
      simp [Cplain, rv, mk, pa, n0, h1', oP_some, fr]
  · rw [if_neg h1]
    have h1' : p1 = [] ↔ False := ⟨h1, False.elim⟩
    cases e0 : numOf p0 with
    | none =>
      rw [e0] at n0
      rw [show oN none = W.non from rfl] at n0
      simp [Cplain, rv, mk, pa, n0, n2, h1', oP_none]
    | some t =>
      rw [e0] at n0
      rw [show oN (some t) = W.int t from rfl] at n0
      cases e2 : numOf p2 with
      | none =>
        rw [e2] at n2
        rw [show oN none = W.non from rfl] at n2
        simp [Cplain, rv, mk, pa, n0, n2, h1', oP_none]
      | some b =>
        rw [e2] at n2
        rw [show oN (some b) = W.int b from rfl] at n2
        dsimp only
        by_cases h2 : b < 2
        · rw [if_pos h2]
          have h2' : (b : Int) < 2 ↔ True := ⟨fun _ => trivial, fun _ => by omega⟩
          simp [Cplain, rv, mk, pa, n0, n2, h1', h2', oP_none]
        · rw [if_neg h2]
          have h2' : (b : Int) < 2 ↔ False := ⟨fun z => by omega, False.elim⟩
          have dv := div_sp hd k t b s
          by_cases h3 : Int.gcd t b = 1
          · rw [if_pos h3]
            rw [h3] at dv
            simp [Cplain, rv, mk, pa, n0, n2, h1', h2', dv, oP_some, fr]
          · rw [if_neg h3]
            have h3' : ((Int.gcd t b : Nat) : Int) = 1 ↔ False := ⟨fun z => h3 (by omega), False.elim⟩
            generalize ((Int.gcd t b : Nat) : Int) = G at *
            simp [Cplain, rv, mk, pa, n0, n2, h1', h2', dv, h3', oP_none]
def PlainSp (g : Gd) (i : Nat) : Prop := ∀ (k : Nat) (w : List Nat) (s : St), w.length ≤ line → callF g (k + 2) i [.str w] s = .ok (oP (plainF w)) s
def CreadF (iP x : Nat) : Ss :=
  .cons (.set 1 (.op .eq (.sl true (.v 0) (.nil) (.cons (.k (.int 1)) .nil)) (.k (.str [45])))) <|
  .cons (.set 2 (.call iP (.cons (.ite (.v 1) (.sl true (.v 0) (.cons (.k (.int 1)) .nil) (.nil)) (.v 0)) .nil) [])) <|
  .cons (.ite (.or_ (.op .is_ (.v 2) (.k (.non))) (.and_ (.v 1) (.op .eq (.ix (.v 2) (.k (.int 0))) (.k (.int 0))))) (.cons (.rse x (.cons (.k (.int 1)) .nil)) .nil) (.nil)) <|
  .cons (.ite (.v 1) (.cons (.ret (.tup (.cons (.op .sub (.k (.int 0)) (.ix (.v 2) (.k (.int 0)))) (.cons (.ix (.v 2) (.k (.int 1))) .nil)))) .nil) (.nil)) <|
  .cons (.ret (.v 2)) .nil
theorem readF_sp (h : g.fns[i]? = some ⟨1, 3, CreadF iP x, .raw⟩) (P : PlainSp g iP) (k : Nat) (w : List Nat) (s : St) (hl : w.length ≤ line) : callF g (k + 3) i [.str w] s = outF x s (readF w) := by
  rw [call_eq h rfl]
  have s1 : slW true s (.str w) none (some 1) = .ok (.str (w.take 1)) s := by
    show (if w.length ≤ line then R.ok (W.str (cut w none (some 1))) s else .bad) = _
    rw [if_pos hl, cut_take]
  have s2 : slW true s (.str w) (some 1) none = .ok (.str (w.drop 1)) s := by
    show (if w.length ≤ line then R.ok (W.str (cut w (some 1) none)) s else .bad) = _
    rw [if_pos hl, cut_drop]
  have n1 := P k w s hl
  have n2 := P k (w.drop 1) s (by rw [List.length_drop]; omega)
  unfold readF
  by_cases h1 : w.take 1 = [45]
  · rw [if_pos h1]
    rw [h1] at s1
    generalize w.drop 1 = w1 at *
    cases e : plainF w1 with
    | none =>
      rw [e, oP_none] at n2
      simp [CreadF, s1, s2, n2, outF]
    | some z =>
      obtain ⟨t, b⟩ := z
      rw [e, oP_some] at n2
      dsimp only
      by_cases hz : t = 0
      · subst hz
        simp [CreadF, s1, s2, n2, outF, fr]
      · have hz' : (t : Int) = 0 ↔ False := ⟨fun z => hz (by omega), False.elim⟩
        simp [CreadF, s1, s2, n2, outF, hz, hz', fr]
  · rw [if_neg h1]
    generalize w.take 1 = w0 at *
    have h1' : w0 = [45] ↔ False := ⟨h1, False.elim⟩
    cases e : plainF w with
    | none =>
      rw [e, oP_none] at n1
      simp [CreadF, s1, n1, h1', outF]
    | some z =>
      obtain ⟨t, b⟩ := z
      rw [e, oP_some] at n1
      simp [CreadF, s1, n1, h1', outF, fr]
def CshowF : Ss :=
  .cons (.ite (.op .eq (.ix (.v 0) (.k (.int 1))) (.k (.int 1))) (.cons (.ret (.bi true .str (.cons (.ix (.v 0) (.k (.int 0))) .nil))) .nil) (.nil)) <|
  .cons (.ret (.op .add (.op .add (.bi true .str (.cons (.ix (.v 0) (.k (.int 0))) .nil)) (.k (.str [47]))) (.bi true .str (.cons (.ix (.v 0) (.k (.int 1))) .nil)))) .nil
theorem p60b : (10 : Nat) ^ 60 < 2 ^ 1900 := Nat.lt_of_lt_of_le (by decide : (10 : Nat) ^ 60 < 2 ^ 200) (Nat.pow_le_pow_right (by decide) (by decide))
theorem showF_len {t b : Int} (ht : t.natAbs < 10 ^ 60) (hb : b.natAbs < 10 ^ 60) : (showF t b).length ≤ 200 := by
  have l1 := intL_len (i := t) (k := 60) (by decide) ht
  have l2 := intL_len (i := b) (k := 60) (by decide) hb
  unfold showF
  split
  · omega
  · simp only [List.length_append, List.length_cons, List.length_nil]; omega
theorem showF_sp (h : g.fns[i]? = some ⟨1, 1, CshowF, .raw⟩) (k : Nat) {t b : Int} (s : St) (ht : t.natAbs < 10 ^ 60) (hb : b.natAbs < 10 ^ 60) : callF g (k + 1) i [fr t b] s = .ok (.str (showF t b)) s := by
  rw [call_eq h rfl]
  have s1 := bi_strI (fz := true) (s := s) (i := t) (Nat.lt_trans ht p60b)
  have s2 := bi_strI (fz := true) (s := s) (i := b) (Nat.lt_trans hb p60b)
  have l1 := intL_len (i := t) (k := 60) (by decide) ht
  have l2 := intL_len (i := b) (k := 60) (by decide) hb
  have a1 := addS (s := s) (a := intL t) (b := [47]) (by show _ + 1 ≤ 16777216; omega)
  have a2 := addS (s := s) (a := intL t ++ [47]) (b := intL b) (by rw [List.length_append]; show _ + 1 + _ ≤ 16777216; omega)
  unfold showF
  by_cases h1 : b = 1
  · rw [if_pos h1]
    have h1' : b = 1 ↔ True := ⟨fun _ => trivial, fun _ => h1⟩
    generalize intL t = X at *
    simp [CshowF, fr, h1', s1]
  · rw [if_neg h1]
    have h1' : b = 1 ↔ False := ⟨h1, False.elim⟩
    generalize intL t ++ [47] ++ intL b = Z at *
    generalize intL t ++ [47] = Y at *
    generalize intL t = X at *
    generalize intL b = V at *
    simp [CshowF, fr, h1', s1, s2, a1, a2]
end
/-! ### what is written is read back -/
theorem cut_none {c : Nat} {b : List Nat} (h : c ∉ b) : cutAt c b = (b, [], []) := by
  unfold cutAt
  rw [show TL.par [c] [] b = none from TL.par_none1 h]
theorem cut_at {c : Nat} {p r : List Nat} (h : c ∉ p) : cutAt c (p ++ c :: r) = (p, [c], r) := by
  unfold cutAt
  have := TL.par_part1 (s := c) (S := []) (p := p) (rest := r) (acc := []) h
  rw [List.nil_append] at this
  rw [show TL.par [c] [] (p ++ c :: r) = _ from this]
theorem plainF_one {t : Nat} (h : t < 10 ^ 60) : plainF (numL t) = some (t, 1) := by
  unfold plainF
  rw [cut_none (numL_free (by decide)), if_pos rfl]
  dsimp only
  rw [numOf_num (numL_len (by decide) h)]
theorem plainF_two {t b : Nat} (h : t < 10 ^ 60) (hb : b < 10 ^ 60) (h2 : 2 ≤ b) (hg : Int.gcd t b = 1) : plainF (numL t ++ [47] ++ numL b) = some (t, b) := by
  unfold plainF
  have e : numL t ++ [47] ++ numL b = numL t ++ 47 :: numL b := by simp
  rw [e, cut_at (numL_free (by decide)), if_neg (by intro z; cases z)]
  dsimp only
  rw [numOf_num (numL_len (by decide) h), numOf_num (numL_len (by decide) hb)]
  dsimp only
  rw [if_neg (by omega), if_pos hg]
theorem take_num (n : Nat) (r : List Nat) : (numL n ++ r).take 1 ≠ [45] := by
  intro e
  cases hn : numL n with
  | nil => exact TL.numL_ne n hn
  | cons a l =>
    rw [hn] at e
    have ha : a = 45 := by simpa using e
    exact numL_free (n := n) (s := 45) (by decide) (by rw [hn, ha]; exact List.mem_cons_self)
theorem readF_show {t b : Int} (hb : 0 < b) (hg : Int.gcd t b = 1) (ht : t.natAbs < 10 ^ 60) (hb2 : b.natAbs < 10 ^ 60) : readF (showF t b) = some (t, b) := by
  obtain ⟨B, rfl⟩ : ∃ B : Nat, b = (B : Int) := ⟨b.toNat, by omega⟩
  have hB : B < 10 ^ 60 := hb2
  unfold showF readF
  cases t with
  | ofNat n =>
    have en : intL (Int.ofNat n) = numL n := intL_nat n
    have hn : n < 10 ^ 60 := ht
    rw [en, intL_nat]
    by_cases h1 : (B : Int) = 1
    · rw [if_pos h1]
      have tk := take_num n []
      rw [List.append_nil] at tk
      rw [if_neg tk, plainF_one hn]
      rw [h1]; rfl
    · rw [if_neg h1]
      have tk := take_num n ([47] ++ numL B)
      rw [← List.append_assoc] at tk
      rw [if_neg tk, plainF_two hn hB (by omega) hg]
      rfl
  | negSucc m =>
    have en : intL (Int.negSucc m) = 45 :: numL (m + 1) := intL_neg m
    have hn : m + 1 < 10 ^ 60 := ht
    rw [en, intL_nat]
    have e0 : (0 : Int) - ((m + 1 : Nat) : Int) = Int.negSucc m := by omega
    by_cases h1 : (B : Int) = 1
    · rw [if_pos h1]
      show (if [45] = [45] then (match plainF (numL (m + 1)) with
        | some (t, b) => if t = 0 then none else some (0 - (t : Int), (b : Int))
        | none => none) else _) = _
      rw [if_pos rfl, plainF_one hn]
      dsimp only
      rw [if_neg (by omega), e0, h1]; rfl
    · rw [if_neg h1]
      show (if [45] = [45] then (match plainF (numL (m + 1) ++ [47] ++ numL B) with
        | some (t, b) => if t = 0 then none else some (0 - (t : Int), (b : Int))
        | none => none) else _) = _
      have hg2 : Int.gcd ((m + 1 : Nat) : Int) (B : Int) = 1 := by
        have : Int.gcd (Int.negSucc m) (B : Int) = Int.gcd ((m + 1 : Nat) : Int) (B : Int) := rfl
        rw [← this]; exact hg
      rw [if_pos rfl, plainF_two hn hB (by omega) hg2]
      dsimp only
      rw [if_neg (by omega), e0]
end Px

set_option linter.all false
set_option maxRecDepth 100000
set_option maxHeartbeats 0
/-! Px24: conditions, and how they are written -/
namespace Px
open PySem
inductive Tm where
  | num (t b : Nat) | here | at_ (w : List Nat) | far (k : Fin 4) (n : Nat)
  | sum (m : Bool) (a b : Tm) | abs (a : Tm) | times (t b : Nat) (a : Tm)
inductive Cd where
  | cmp (e : Bool) (a b : Tm) | neg (a : Cd) | and_ (a b : Cd) | or_ (a b : Cd)
def farL (k : Fin 4) : List Nat := match k with
  | 0 => [98, 97, 99, 107]
  | 1 => [111, 110]
  | 2 => [97, 103, 111]
  | 3 => [117, 110, 116, 105, 108]
def sgnL (m : Bool) : List Nat := if m then [45] else [43]
def cmpL (e : Bool) : List Nat := if e then [61] else [60]
def Tm.W : Tm → Px.W
  | .num t b => .tup [.str [110, 117, 109], fr t b]
  | .here => .tup [.str [104, 101, 114, 101]]
  | .at_ w => .tup [.str [97, 116], .str w]
  | .far k n => .tup [.str (farL k), .int n]
  | .sum m a b => .tup [.str (sgnL m), a.W, b.W]
  | .abs a => .tup [.str [97, 98, 115], a.W]
  | .times t b a => .tup [.str [116, 105, 109, 101, 115], fr t b, a.W]
def Cd.W : Cd → Px.W
  | .cmp e a b => .tup [.str (cmpL e), a.W, b.W]
  | .neg a => .tup [.str [110, 111, 116], a.W]
  | .and_ a b => .tup [.str [97, 110, 100], a.W, b.W]
  | .or_ a b => .tup [.str [111, 114], a.W, b.W]
def Tm.rank : Tm → Nat
  | .sum _ _ _ => 1
  | .times _ _ _ => 2
  | _ => 3
def Cd.rank : Cd → Nat
  | .or_ _ _ => 1
  | .and_ _ _ => 2
  | .neg _ => 3
  | .cmp _ _ _ => 4
/-- in brackets where it binds too little -/
def brk (r l : Nat) (o c : Nat) (t : List Nat) : List Nat := if r < l then [o] ++ t ++ [c] else t
def Tm.txt : Tm → List Nat
  | .num t b => showF t b
  | .here => [104, 101, 114, 101]
  | .at_ w => [97, 116] ++ [32] ++ w
  | .far k n => farL k ++ [32] ++ numL n
  | .sum m a b => brk a.rank 1 40 41 a.txt ++ [32] ++ sgnL m ++ [32] ++ brk b.rank 2 40 41 b.txt
  | .abs a => [97, 98, 115, 40] ++ brk a.rank 1 40 41 a.txt ++ [41]
  | .times t b a => showF t b ++ [32, 42, 32] ++ brk a.rank 3 40 41 a.txt
def Cd.txt : Cd → List Nat
  | .cmp e a b => brk a.rank 1 40 41 a.txt ++ [32] ++ cmpL e ++ [32] ++ brk b.rank 1 40 41 b.txt
  | .neg a => [110, 111, 116, 32] ++ brk a.rank 3 91 93 a.txt
  | .and_ a b => brk a.rank 2 91 93 a.txt ++ [32] ++ [97, 110, 100] ++ [32] ++ brk b.rank 3 91 93 b.txt
  | .or_ a b => brk a.rank 1 91 93 a.txt ++ [32] ++ [111, 114] ++ [32] ++ brk b.rank 2 91 93 b.txt
def Tm.sz : Tm → Nat
  | .sum _ a b => 1 + a.sz + b.sz
  | .abs a => 1 + a.sz
  | .times _ _ a => 1 + a.sz
  | _ => 1
def Cd.sz : Cd → Nat
  | .cmp _ a b => 1 + a.sz + b.sz
  | .neg a => 1 + a.sz
  | .and_ a b => 1 + a.sz + b.sz
  | .or_ a b => 1 + a.sz + b.sz
def Tm.ok : Tm → Prop
  | .num t b => t < 10 ^ 60 ∧ 0 < b ∧ b < 10 ^ 60
  | .here => True
  | .at_ w => w.length ≤ 100
  | .far _ n => n < 10 ^ 60
  | .sum _ a b => a.ok ∧ b.ok
  | .abs a => a.ok
  | .times t b a => t < 10 ^ 60 ∧ 0 < b ∧ b < 10 ^ 60 ∧ a.ok
def Cd.ok : Cd → Prop
  | .cmp _ a b => a.ok ∧ b.ok
  | .neg a => a.ok
  | .and_ a b => a.ok ∧ b.ok
  | .or_ a b => a.ok ∧ b.ok
theorem brk_len (r l o c : Nat) (t : List Nat) : (brk r l o c t).length ≤ t.length + 2 := by
  unfold brk
  split
  · simp
  · omega
theorem farL_len (k : Fin 4) : (farL k).length ≤ 5 := by
  match k with
  | 0 => decide
  | 1 => decide
  | 2 => decide
  | 3 => decide
theorem sgnL_len (m : Bool) : (sgnL m).length = 1 := by cases m <;> rfl
theorem cmpL_len (m : Bool) : (cmpL m).length = 1 := by cases m <;> rfl
theorem showN_len {t b : Nat} (h1 : t < 10 ^ 60) (h2 : b < 10 ^ 60) : (showF t b).length ≤ 200 := showF_len (t := (t : Int)) (b := (b : Int)) h1 h2
theorem Tm.txt_len : ∀ {t : Tm}, t.ok → t.txt.length ≤ 250 * t.sz
  | .num t b, h => by have := showN_len h.1 h.2.2; simp only [Tm.txt, Tm.sz]; omega
  | .here, _ => by simp [Tm.txt, Tm.sz]
  | .at_ w, h => by have h : w.length ≤ 100 := h; simp [Tm.txt, Tm.sz]; omega
  | .far k n, h => by
    have := farL_len k
    have := numL_len (n := n) (k := 60) (by decide) h
    simp only [Tm.txt, Tm.sz, List.length_append, List.length_singleton]; omega
  | .sum m a b, h => by
    have h1 := Tm.txt_len h.1
    have h2 := Tm.txt_len h.2
    have h3 := brk_len a.rank 1 40 41 a.txt
    have h4 := brk_len b.rank 2 40 41 b.txt
    have h5 := sgnL_len m
    simp only [Tm.txt, Tm.sz, List.length_append, List.length_singleton]; omega
  | .abs a, h => by
    have h1 := Tm.txt_len (t := a) h
    have h3 := brk_len a.rank 1 40 41 a.txt
    simp only [Tm.txt, Tm.sz, List.length_append, List.length_singleton, List.length_cons, List.length_nil]; omega
  | .times t b a, h => by
    have h0 := showN_len h.1 h.2.2.1
    have h1 := Tm.txt_len (t := a) h.2.2.2
    have h3 := brk_len a.rank 3 40 41 a.txt
    simp only [Tm.txt, Tm.sz, List.length_append, List.length_singleton, List.length_cons, List.length_nil]; omega
theorem Cd.txt_len : ∀ {c : Cd}, c.ok → c.txt.length ≤ 250 * c.sz
  | .cmp m a b, h => by
    have h1 := Tm.txt_len h.1
    have h2 := Tm.txt_len h.2
    have h3 := brk_len a.rank 1 40 41 a.txt
    have h4 := brk_len b.rank 1 40 41 b.txt
    have h5 := cmpL_len m
    simp only [Cd.txt, Cd.sz, List.length_append, List.length_singleton]; omega
  | .neg a, h => by
    have h1 := Cd.txt_len (c := a) h
    have h3 := brk_len a.rank 3 91 93 a.txt
    simp only [Cd.txt, Cd.sz, List.length_append, List.length_singleton, List.length_cons, List.length_nil]; omega
  | .and_ a b, h => by
    have h1 := Cd.txt_len h.1
    have h2 := Cd.txt_len h.2
    have h3 := brk_len a.rank 2 91 93 a.txt
    have h4 := brk_len b.rank 3 91 93 b.txt
    simp only [Cd.txt, Cd.sz, List.length_append, List.length_singleton, List.length_cons, List.length_nil]; omega
  | .or_ a b, h => by
    have h1 := Cd.txt_len h.1
    have h2 := Cd.txt_len h.2
    have h3 := brk_len a.rank 1 91 93 a.txt
    have h4 := brk_len b.rank 2 91 93 b.txt
    simp only [Cd.txt, Cd.sz, List.length_append, List.length_singleton, List.length_cons, List.length_nil]; omega
section
variable {g : Gd} {iF iR iS iT iQ iA iC : Nat}
def Crank : Ss :=
  .cons (.ite (.or_ (.op .eq (.ix (.v 0) (.k (.int 0))) (.k (.str [43]))) (.op .eq (.ix (.v 0) (.k (.int 0))) (.k (.str [45])))) (.cons (.ret (.k (.int 1))) .nil) (.nil)) <|
  .cons (.ite (.op .eq (.ix (.v 0) (.k (.int 0))) (.k (.str [116, 105, 109, 101, 115]))) (.cons (.ret (.k (.int 2))) .nil) (.nil)) <|
  .cons (.ret (.k (.int 3))) .nil
theorem rank_sp (h : g.fns[iR]? = some ⟨1, 1, Crank, .raw⟩) (k : Nat) (t : Tm) (s : St) : callF g (k + 1) iR [t.W] s = .ok (.int t.rank) s := by
  rw [call_eq h rfl]
  cases t with
  | num t b => simp [Crank, Tm.W, Tm.rank]
  | here => simp [Crank, Tm.W, Tm.rank]
  | at_ w => simp [Crank, Tm.W, Tm.rank]
  | far k n =>
    match k with
    | 0 => simp [Crank, Tm.W, Tm.rank, farL]
    | 1 => simp [Crank, Tm.W, Tm.rank, farL]
    | 2 => simp [Crank, Tm.W, Tm.rank, farL]
    | 3 => simp [Crank, Tm.W, Tm.rank, farL]
  | sum m a b => cases m <;> simp [Crank, Tm.W, Tm.rank, sgnL]
  | abs a => simp [Crank, Tm.W, Tm.rank]
  | times t b a => simp [Crank, Tm.W, Tm.rank]
def Csingle (iF iT : Nat) : Ss :=
  .cons (.ite (.op .eq (.ix (.v 0) (.k (.int 0))) (.k (.str [110, 117, 109]))) (.cons (.ret (.call iF (.cons (.ix (.v 0) (.k (.int 1))) .nil) [])) .nil) (.nil)) <|
  .cons (.ite (.op .eq (.ix (.v 0) (.k (.int 0))) (.k (.str [104, 101, 114, 101]))) (.cons (.ret (.k (.str [104, 101, 114, 101]))) .nil) (.nil)) <|
  .cons (.ite (.op .eq (.ix (.v 0) (.k (.int 0))) (.k (.str [97, 98, 115]))) (.cons (.ret (.op .add (.op .add (.k (.str [97, 98, 115, 40])) (.call iT (.cons (.ix (.v 0) (.k (.int 1))) (.cons (.k (.int 1)) .nil)) [])) (.k (.str [41])))) .nil) (.nil)) <|
  .cons (.ret (.op .add (.op .add (.ix (.v 0) (.k (.int 0))) (.k (.str [32]))) (.bi true .str (.cons (.ix (.v 0) (.k (.int 1))) .nil)))) .nil
def Cterm (iF iR iS iT : Nat) : Ss :=
  .cons (.set 2 (.call iR (.cons (.v 0) .nil) [])) <|
  .cons (.ite (.op .eq (.v 2) (.k (.int 3))) (.cons (.set 3 (.call iS (.cons (.v 0) .nil) [])) .nil) (.cons (.ite (.op .eq (.v 2) (.k (.int 2))) (.cons (.set 3 (.op .add (.op .add (.call iF (.cons (.ix (.v 0) (.k (.int 1))) .nil) []) (.k (.str [32, 42, 32]))) (.call iT (.cons (.ix (.v 0) (.k (.int 2))) (.cons (.k (.int 3)) .nil)) []))) .nil) (.cons (.set 3 (.op .add (.op .add (.op .add (.op .add (.call iT (.cons (.ix (.v 0) (.k (.int 1))) (.cons (.k (.int 1)) .nil)) []) (.k (.str [32]))) (.ix (.v 0) (.k (.int 0)))) (.k (.str [32]))) (.call iT (.cons (.ix (.v 0) (.k (.int 2))) (.cons (.k (.int 2)) .nil)) []))) .nil)) .nil)) <|
  .cons (.ite (.op .lt (.v 2) (.v 1)) (.cons (.ret (.op .add (.op .add (.k (.str [40])) (.v 3)) (.k (.str [41])))) .nil) (.nil)) <|
  .cons (.ret (.v 3)) .nil
/-- what is written of a term -/
def TermSp (g : Gd) (iT : Nat) (t : Tm) : Prop := ∀ (k l : Nat) (s : St), callF g (k + 2 * t.sz + 2) iT [t.W, .int l] s = .ok (.str (brk t.rank l 40 41 t.txt)) s
theorem add3 {s : St} {a b c : List Nat} (h : a.length + b.length + c.length ≤ 1000000) : opAdd s (.str a) (.str b) = .ok (.str (a ++ b)) s ∧ opAdd s (.str (a ++ b)) (.str c) = .ok (.str (a ++ b ++ c)) s :=
  ⟨addS (by show _ ≤ 16777216; omega), addS (by rw [List.length_append]; show _ ≤ 16777216; omega)⟩
/-- the end of show_term: in brackets or not -/
theorem tail_brk {cl mkc mt xf xfl} {s : St} {e : Px.Env} {r l o c : Nat} {t : List Nat} (h1 : e[1]? = some (some (.int l))) (h2 : e[2]? = some (some (.int r))) (h3 : e[3]? = some (some (.str t))) (hl : t.length ≤ 900000) :
    evSs cl mkc mt xf xfl (.cons (.ite (.op .lt (.v 2) (.v 1)) (.cons (.ret (.op .add (.op .add (.k (.str [o])) (.v 3)) (.k (.str [c])))) .nil) (.nil)) <| .cons (.ret (.v 3)) .nil) e s = .ret (.str (brk r l o c t)) s := by
  obtain ⟨a1, a2⟩ := add3 (s := s) (a := [o]) (b := t) (c := [c]) (by simp; omega)
  unfold brk
  by_cases h : r < l
  · have h' : (r : Int) < l ↔ True := ⟨fun _ => trivial, fun _ => by omega⟩
    rw [if_pos h]
    generalize [o] ++ t ++ [c] = X2 at *
    generalize [o] ++ t = X1 at *
    simp [h1, h2, h3, h', a1, a2]
  · have h' : (r : Int) < l ↔ False := ⟨fun z => by omega, False.elim⟩
    rw [if_neg h]
    simp [h1, h2, h3, h']
theorem single_sp (hf : g.fns[iF]? = some ⟨1, 1, CshowF, .raw⟩) (hs : g.fns[iS]? = some ⟨1, 1, Csingle iF iT, .raw⟩) (k : Nat) {t : Tm} (s : St) (hr : t.rank = 3) (ho : t.ok) (hz : t.sz ≤ 1000) (ih : ∀ a, t = .abs a → TermSp g iT a) :
    callF g (k + 2 * t.sz + 1) iS [t.W] s = .ok (.str t.txt) s := by
  rw [call_eq hs rfl]
  cases t with
  | num t b =>
    have sh := showF_sp hf (k + 1) (t := (t : Int)) (b := (b : Int)) s ho.1 ho.2.2
    have sh : callF g (k + 2 * (Tm.num t b).sz) iF [fr t b] s = .ok (.str (showF t b)) s := sh
    generalize k + 2 * (Tm.num t b).sz = K at *
    generalize hx : showF t b = TX at *
    simp [Csingle, Tm.W, Tm.txt, sh, hx]
  | here => simp [Csingle, Tm.W, Tm.txt]
  | at_ w =>
    have ho : w.length ≤ 100 := ho
    have bs : biW true .str [.str w] s = .ok (.str w) s := rfl
    obtain ⟨a1, a2⟩ := add3 (s := s) (a := [97, 116]) (b := [32]) (c := w) (by simp; omega)
    generalize hx : [97, 116] ++ [32] ++ w = TX at *
    simp only [Tm.txt, hx]
    generalize ([97, 116] ++ [32] : List Nat) = X1 at *
    simp [Csingle, Tm.W, bs, a1, a2]
  | far q n =>
    have ln := numL_len (n := n) (k := 60) (by decide) ho
    have bs := bi_str (fz := true) (s := s) (n := n) (Nat.lt_trans ho p60b)
    have hl := farL_len q
    obtain ⟨a1, a2⟩ := add3 (s := s) (a := farL q) (b := [32]) (c := numL n) (by simp; omega)
    have n1 : farL q = [110, 117, 109] ↔ False := by
      match q with
      | 0 => simp [farL]
      | 1 => simp [farL]
      | 2 => simp [farL]
      | 3 => simp [farL]
    have n2 : farL q = [104, 101, 114, 101] ↔ False := by
      match q with
      | 0 => simp [farL]
      | 1 => simp [farL]
      | 2 => simp [farL]
      | 3 => simp [farL]
    have n3 : farL q = [97, 98, 115] ↔ False := by
      match q with
      | 0 => simp [farL]
      | 1 => simp [farL]
      | 2 => simp [farL]
      | 3 => simp [farL]
    simp only [Tm.txt]
    generalize farL q ++ [32] ++ numL n = X2 at *
    generalize farL q ++ [32] = X1 at *
    simp only [Tm.W]
    generalize farL q = F at *
    generalize numL n = N at *
    simp [Csingle, bs, a1, a2, n1, n2, n3]
  | abs a =>
    have T := ih a rfl k 1 s
    have tl := Tm.txt_len (t := a) ho
    have bl := brk_len a.rank 1 40 41 a.txt
    simp only [Tm.sz] at hz
    obtain ⟨a1, a2⟩ := add3 (s := s) (a := [97, 98, 115, 40]) (b := brk a.rank 1 40 41 a.txt) (c := [41]) (by simp; omega)
    have e : k + 2 * (Tm.abs a).sz = k + 2 * a.sz + 2 := by simp only [Tm.sz]; omega
    rw [e]
    have T : callF g (k + 2 * a.sz + 2) iT [a.W, .int 1] s = .ok (.str (brk a.rank 1 40 41 a.txt)) s := T
    simp only [Tm.txt, Tm.W]
    generalize k + 2 * a.sz + 2 = K at *
    generalize [97, 98, 115, 40] ++ brk a.rank 1 40 41 a.txt ++ [41] = X2 at *
    generalize [97, 98, 115, 40] ++ brk a.rank 1 40 41 a.txt = X1 at *
    generalize brk a.rank 1 40 41 a.txt = TX at *
    generalize a.W = AW at *
    simp [Csingle, T, a1, a2]
  | sum m a b => cases hr
  | times t b a => cases hr
theorem one3 (ht : g.fns[iT]? = some ⟨2, 4, Cterm iF iR iS iT, .raw⟩) (hr : g.fns[iR]? = some ⟨1, 1, Crank, .raw⟩) (hf : g.fns[iF]? = some ⟨1, 1, CshowF, .raw⟩) (hs : g.fns[iS]? = some ⟨1, 1, Csingle iF iT, .raw⟩) (k l : Nat) {t : Tm} (s : St) (h3 : t.rank = 3) (ho : t.ok) (hz : t.sz ≤ 1000) (ih : ∀ a, t = .abs a → TermSp g iT a) :
    callF g (k + 2 * t.sz + 2) iT [t.W, .int l] s = .ok (.str (brk t.rank l 40 41 t.txt)) s := by
  rw [call_eq ht rfl]
  have sg := single_sp hf hs k s h3 ho hz ih
  have rk := rank_sp hr (k + 2 * t.sz) t s
  rw [h3] at rk ⊢
  have hx : t.txt.length ≤ 900000 := by
    have := Tm.txt_len (t := t) ho
    omega
  generalize t.txt = TX at *
  generalize k + 2 * t.sz + 1 = K at *
  generalize t.W = TW at *
  have tb := fun e h1 h2 h3 => tail_brk (cl := callF g K) (mkc := mkF g K) (mt := mtF g) (xf := g.xf) (xfl := g.xfl) (s := s) (e := e) (r := 3) (l := l) (o := 40) (c := 41) (t := TX) h1 h2 h3 hx
  have tb := tb [some TW, some (.int l), some (.int 3), some (.str TX)] rfl rfl rfl
  unfold Cterm
  generalize (Ss.cons (.ite (.op .lt (.v 2) (.v 1)) (.cons (.ret (.op .add (.op .add (.k (.str [40])) (.v 3)) (.k (.str [41])))) .nil) (.nil)) <| .cons (.ret (.v 3)) .nil) = TB at *
  have rk : callF g K iR [TW] s = .ok (.int 3) s := rk
  simp [rk, sg, tb]
theorem term_sp (hf : g.fns[iF]? = some ⟨1, 1, CshowF, .raw⟩) (hr : g.fns[iR]? = some ⟨1, 1, Crank, .raw⟩) (hs : g.fns[iS]? = some ⟨1, 1, Csingle iF iT, .raw⟩) (ht : g.fns[iT]? = some ⟨2, 4, Cterm iF iR iS iT, .raw⟩) : ∀ (t : Tm), t.ok → t.sz ≤ 1000 → TermSp g iT t := by
  intro t
  induction t with
  | sum m a b iha ihb =>
    intro ho hz k l s
    simp only [Tm.sz] at hz
    rw [call_eq ht rfl]
    have T1 := iha ho.1 (by omega) (k + 2 * b.sz + 1) 1 s
    have T2 := ihb ho.2 (by omega) (k + 2 * a.sz + 1) 2 s
    have e1 : k + 2 * b.sz + 1 + 2 * a.sz + 2 = k + 2 * (Tm.sum m a b).sz + 1 := by simp only [Tm.sz]; omega
    have e2 : k + 2 * a.sz + 1 + 2 * b.sz + 2 = k + 2 * (Tm.sum m a b).sz + 1 := by simp only [Tm.sz]; omega
    rw [e1] at T1
    rw [e2] at T2
    have rk := rank_sp hr (k + 2 * (Tm.sum m a b).sz) (Tm.sum m a b) s
    have l1 := Tm.txt_len ho.1
    have l2 := Tm.txt_len ho.2
    have b1 := brk_len a.rank 1 40 41 a.txt
    have b2 := brk_len b.rank 2 40 41 b.txt
    have ls := sgnL_len m
    obtain ⟨a1, a2⟩ := add3 (s := s) (a := brk a.rank 1 40 41 a.txt) (b := [32]) (c := sgnL m) (by simp; omega)
    obtain ⟨a3, a4⟩ := add3 (s := s) (a := brk a.rank 1 40 41 a.txt ++ [32] ++ sgnL m) (b := [32]) (c := brk b.rank 2 40 41 b.txt) (by simp; omega)
    have hx : (Tm.sum m a b).txt.length ≤ 900000 := by
      have := Tm.txt_len (t := Tm.sum m a b) ho
      simp only [Tm.sz] at this
      omega
    have et : (Tm.sum m a b).txt = brk a.rank 1 40 41 a.txt ++ [32] ++ sgnL m ++ [32] ++ brk b.rank 2 40 41 b.txt := rfl
    have er : (Tm.sum m a b).rank = 1 := rfl
    rw [er] at rk ⊢
    rw [← et] at a4
    generalize (Tm.sum m a b).txt = TX at *
    clear et
    generalize brk a.rank 1 40 41 a.txt ++ [32] ++ sgnL m ++ [32] = X3 at *
    generalize brk a.rank 1 40 41 a.txt ++ [32] ++ sgnL m = X2 at *
    generalize brk a.rank 1 40 41 a.txt ++ [32] = X1 at *
    generalize brk a.rank 1 40 41 a.txt = XA at *
    generalize brk b.rank 2 40 41 b.txt = XB at *
    generalize k + 2 * (Tm.sum m a b).sz + 1 = K at *
    simp only [Tm.W] at rk ⊢
    generalize sgnL m = SM at *
    generalize a.W = AW at *
    generalize b.W = BW at *
    have tb := fun e h1 h2 h3 => tail_brk (cl := callF g K) (mkc := mkF g K) (mt := mtF g) (xf := g.xf) (xfl := g.xfl) (s := s) (e := e) (r := 1) (l := l) (o := 40) (c := 41) (t := TX) h1 h2 h3 hx
    have tb := tb [some (.tup [.str SM, AW, BW]), some (.int l), some (.int 1), some (.str TX)] rfl rfl rfl
    unfold Cterm
    generalize (Ss.cons (.ite (.op .lt (.v 2) (.v 1)) (.cons (.ret (.op .add (.op .add (.k (.str [40])) (.v 3)) (.k (.str [41])))) .nil) (.nil)) <| .cons (.ret (.v 3)) .nil) = TB at *
    have T1 : callF g K iT [AW, .int 1] s = .ok (.str XA) s := T1
    have T2 : callF g K iT [BW, .int 2] s = .ok (.str XB) s := T2
    have rk : callF g K iR [.tup [.str SM, AW, BW]] s = .ok (.int 1) s := rk
    simp [rk, T1, T2, a1, a2, a3, a4, tb]
  | times t b a ih =>
    intro ho hz k l s
    simp only [Tm.sz] at hz
    rw [call_eq ht rfl]
    have T1 := ih ho.2.2.2 (by omega) (k + 1) 3 s
    have e1 : k + 1 + 2 * a.sz + 2 = k + 2 * (Tm.times t b a).sz + 1 := by simp only [Tm.sz]; omega
    rw [e1] at T1
    have sh := showF_sp hf (k + 2 * (Tm.times t b a).sz) (t := (t : Int)) (b := (b : Int)) s ho.1 ho.2.2.1
    have sl := showN_len ho.1 ho.2.2.1
    have rk := rank_sp hr (k + 2 * (Tm.times t b a).sz) (Tm.times t b a) s
    have l1 := Tm.txt_len (t := a) ho.2.2.2
    have b1 := brk_len a.rank 3 40 41 a.txt
    obtain ⟨a1, a2⟩ := add3 (s := s) (a := showF t b) (b := [32, 42, 32]) (c := brk a.rank 3 40 41 a.txt) (by simp; omega)
    have hx : (Tm.times t b a).txt.length ≤ 900000 := by
      have := Tm.txt_len (t := Tm.times t b a) ho
      simp only [Tm.sz] at this
      omega
    have et : (Tm.times t b a).txt = showF t b ++ [32, 42, 32] ++ brk a.rank 3 40 41 a.txt := rfl
    have er : (Tm.times t b a).rank = 2 := rfl
    rw [er] at rk ⊢
    rw [← et] at a2
    generalize (Tm.times t b a).txt = TX at *
    clear et
    generalize k + 2 * (Tm.times t b a).sz + 1 = K at *
    simp only [Tm.W] at rk ⊢
    generalize showF t b ++ [32, 42, 32] = X1 at *
    generalize showF t b = SF at *
    generalize brk a.rank 3 40 41 a.txt = XA at *
    generalize a.W = AW at *
    have tb := fun e h1 h2 h3 => tail_brk (cl := callF g K) (mkc := mkF g K) (mt := mtF g) (xf := g.xf) (xfl := g.xfl) (s := s) (e := e) (r := 2) (l := l) (o := 40) (c := 41) (t := TX) h1 h2 h3 hx
    have tb := tb [some (.tup [.str [116, 105, 109, 101, 115], fr t b, AW]), some (.int l), some (.int 2), some (.str TX)] rfl rfl rfl
    unfold Cterm
    generalize (Ss.cons (.ite (.op .lt (.v 2) (.v 1)) (.cons (.ret (.op .add (.op .add (.k (.str [40])) (.v 3)) (.k (.str [41])))) .nil) (.nil)) <| .cons (.ret (.v 3)) .nil) = TB at *
    have T1 : callF g K iT [AW, .int 3] s = .ok (.str XA) s := T1
    have sh : callF g K iF [fr t b] s = .ok (.str SF) s := sh
    have rk : callF g K iR [.tup [.str [116, 105, 109, 101, 115], fr t b, AW]] s = .ok (.int 2) s := rk
    generalize fr t b = FR at *
    simp [rk, T1, sh, a1, a2, tb]
  | num t b =>
    intro ho hz k l s
    exact one3 ht hr hf hs k l s rfl ho hz fun a e => by cases e
  | here =>
    intro ho hz k l s
    exact one3 ht hr hf hs k l s rfl ho hz fun a e => by cases e
  | at_ w =>
    intro ho hz k l s
    exact one3 ht hr hf hs k l s rfl ho hz fun a e => by cases e
  | far q n =>
    intro ho hz k l s
    exact one3 ht hr hf hs k l s rfl ho hz fun a e => by cases e
  | abs a ih =>
    intro ho hz k l s
    refine one3 ht hr hf hs k l s rfl ho hz fun a' e => ?_
    cases e
    simp only [Tm.sz] at hz
    exact ih ho (by omega)
end
end Px

set_option linter.all false
set_option maxRecDepth 100000
set_option maxHeartbeats 0
/-! Px25: conditions written -/
namespace Px
open PySem
section
variable {g : Gd} {iF iR iS iT iQ iA iC : Nat}
def Cqrank : Ss :=
  .cons (.ite (.op .eq (.ix (.v 0) (.k (.int 0))) (.k (.str [111, 114]))) (.cons (.ret (.k (.int 1))) .nil) (.nil)) <|
  .cons (.ite (.op .eq (.ix (.v 0) (.k (.int 0))) (.k (.str [97, 110, 100]))) (.cons (.ret (.k (.int 2))) .nil) (.nil)) <|
  .cons (.ite (.op .eq (.ix (.v 0) (.k (.int 0))) (.k (.str [110, 111, 116]))) (.cons (.ret (.k (.int 3))) .nil) (.nil)) <|
  .cons (.ret (.k (.int 4))) .nil
theorem qrank_sp (h : g.fns[iQ]? = some ⟨1, 1, Cqrank, .raw⟩) (k : Nat) (c : Cd) (s : St) : callF g (k + 1) iQ [c.W] s = .ok (.int c.rank) s := by
  rw [call_eq h rfl]
  cases c with
  | cmp e a b => cases e <;> simp [Cqrank, Cd.W, Cd.rank, cmpL]
  | neg a => simp [Cqrank, Cd.W, Cd.rank]
  | and_ a b => simp [Cqrank, Cd.W, Cd.rank]
  | or_ a b => simp [Cqrank, Cd.W, Cd.rank]
def Cat (iQ iT iA : Nat) : Ss :=
  .cons (.set 2 (.call iQ (.cons (.v 0) .nil) [])) <|
  .cons (.ite (.op .eq (.v 2) (.k (.int 4))) (.cons (.ret (.op .add (.op .add (.op .add (.op .add (.call iT (.cons (.ix (.v 0) (.k (.int 1))) (.cons (.k (.int 1)) .nil)) []) (.k (.str [32]))) (.ix (.v 0) (.k (.int 0)))) (.k (.str [32]))) (.call iT (.cons (.ix (.v 0) (.k (.int 2))) (.cons (.k (.int 1)) .nil)) []))) .nil) (.nil)) <|
  .cons (.ite (.op .eq (.v 2) (.k (.int 3))) (.cons (.set 3 (.op .add (.k (.str [110, 111, 116, 32])) (.call iA (.cons (.ix (.v 0) (.k (.int 1))) (.cons (.k (.int 3)) .nil)) []))) .nil) (.cons (.set 3 (.op .add (.op .add (.op .add (.op .add (.call iA (.cons (.ix (.v 0) (.k (.int 1))) (.cons (.v 2) .nil)) []) (.k (.str [32]))) (.ix (.v 0) (.k (.int 0)))) (.k (.str [32]))) (.call iA (.cons (.ix (.v 0) (.k (.int 2))) (.cons (.op .add (.v 2) (.k (.int 1))) .nil)) []))) .nil)) <|
  .cons (.ite (.op .lt (.v 2) (.v 1)) (.cons (.ret (.op .add (.op .add (.k (.str [91])) (.v 3)) (.k (.str [93])))) .nil) (.nil)) <|
  .cons (.ret (.v 3)) .nil
/-- what is written of a condition -/
def CondSp (g : Gd) (iA : Nat) (c : Cd) : Prop := ∀ (k l : Nat) (s : St), l ≤ 4 → callF g (k + 2 * c.sz + 2) iA [c.W, .int l] s = .ok (.str (brk c.rank l 91 93 c.txt)) s
theorem add5 {s : St} {a b c d e : List Nat} (h : a.length + b.length + c.length + d.length + e.length ≤ 1000000) :
    opAdd s (.str a) (.str b) = .ok (.str (a ++ b)) s ∧ opAdd s (.str (a ++ b)) (.str c) = .ok (.str (a ++ b ++ c)) s ∧ opAdd s (.str (a ++ b ++ c)) (.str d) = .ok (.str (a ++ b ++ c ++ d)) s ∧ opAdd s (.str (a ++ b ++ c ++ d)) (.str e) = .ok (.str (a ++ b ++ c ++ d ++ e)) s := by
  obtain ⟨a1, a2⟩ := add3 (s := s) (a := a) (b := b) (c := c) (by omega)
  obtain ⟨a3, a4⟩ := add3 (s := s) (a := a ++ b ++ c) (b := d) (c := e) (by simp only [List.length_append]; omega)
  exact ⟨a1, a2, a3, a4⟩
theorem cond_sp (hq : g.fns[iQ]? = some ⟨1, 1, Cqrank, .raw⟩) (ha : g.fns[iA]? = some ⟨2, 4, Cat iQ iT iA, .raw⟩) (T : ∀ t : Tm, t.ok → t.sz ≤ 1000 → TermSp g iT t) : ∀ (c : Cd), c.ok → c.sz ≤ 1000 → CondSp g iA c := by
  intro c
  induction c with
  | cmp e a b =>
    intro ho hz k l s hl
    simp only [Cd.sz] at hz
    rw [call_eq ha rfl]
    have T1 := T a ho.1 (by omega) (k + 2 * b.sz + 1) 1 s
    have T2 := T b ho.2 (by omega) (k + 2 * a.sz + 1) 1 s
    have e1 : k + 2 * b.sz + 1 + 2 * a.sz + 2 = k + 2 * (Cd.cmp e a b).sz + 1 := by simp only [Cd.sz]; omega
    have e2 : k + 2 * a.sz + 1 + 2 * b.sz + 2 = k + 2 * (Cd.cmp e a b).sz + 1 := by simp only [Cd.sz]; omega
    rw [e1] at T1
    rw [e2] at T2
    have rk := qrank_sp hq (k + 2 * (Cd.cmp e a b).sz) (Cd.cmp e a b) s
    have l1 := Tm.txt_len ho.1
    have l2 := Tm.txt_len ho.2
    have b1 := brk_len a.rank 1 40 41 a.txt
    have b2 := brk_len b.rank 1 40 41 b.txt
    have ls := cmpL_len e
    obtain ⟨a1, a2, a3, a4⟩ := add5 (s := s) (a := brk a.rank 1 40 41 a.txt) (b := [32]) (c := cmpL e) (d := [32]) (e := brk b.rank 1 40 41 b.txt) (by simp; omega)
    have er : (Cd.cmp e a b).rank = 4 := rfl
    rw [er] at rk ⊢
    have hb : brk 4 l 91 93 (Cd.cmp e a b).txt = (Cd.cmp e a b).txt := if_neg (by omega)
    rw [hb]
    have et : (Cd.cmp e a b).txt = brk a.rank 1 40 41 a.txt ++ [32] ++ cmpL e ++ [32] ++ brk b.rank 1 40 41 b.txt := rfl
    rw [← et] at a4
    generalize (Cd.cmp e a b).txt = TX at *
    clear et hb
    generalize brk a.rank 1 40 41 a.txt ++ [32] ++ cmpL e ++ [32] = X3 at *
    generalize brk a.rank 1 40 41 a.txt ++ [32] ++ cmpL e = X2 at *
    generalize brk a.rank 1 40 41 a.txt ++ [32] = X1 at *
    generalize brk a.rank 1 40 41 a.txt = XA at *
    generalize brk b.rank 1 40 41 b.txt = XB at *
    generalize k + 2 * (Cd.cmp e a b).sz + 1 = K at *
    simp only [Cd.W] at rk ⊢
    generalize cmpL e = SM at *
    generalize a.W = AW at *
    generalize b.W = BW at *
    have T1 : callF g K iT [AW, .int 1] s = .ok (.str XA) s := T1
    have T2 : callF g K iT [BW, .int 1] s = .ok (.str XB) s := T2
    have rk : callF g K iQ [.tup [.str SM, AW, BW]] s = .ok (.int 4) s := rk
    simp [Cat, rk, T1, T2, a1, a2, a3, a4]
  | neg a ih =>
    intro ho hz k l s hl
    simp only [Cd.sz] at hz
    rw [call_eq ha rfl]
    have T1 := ih ho (by omega) (k + 1) 3 s (by decide)
    have e1 : k + 1 + 2 * a.sz + 2 = k + 2 * (Cd.neg a).sz + 1 := by simp only [Cd.sz]; omega
    rw [e1] at T1
    have rk := qrank_sp hq (k + 2 * (Cd.neg a).sz) (Cd.neg a) s
    have l1 := Cd.txt_len (c := a) ho
    have b1 := brk_len a.rank 3 91 93 a.txt
    have a1 := addS (s := s) (a := [110, 111, 116, 32]) (b := brk a.rank 3 91 93 a.txt) (by show 4 + _ ≤ 16777216; omega)
    have hx : (Cd.neg a).txt.length ≤ 900000 := by
      have := Cd.txt_len (c := Cd.neg a) ho
      simp only [Cd.sz] at this
      omega
    have et : (Cd.neg a).txt = [110, 111, 116, 32] ++ brk a.rank 3 91 93 a.txt := rfl
    have er : (Cd.neg a).rank = 3 := rfl
    rw [er] at rk ⊢
    rw [← et] at a1
    generalize (Cd.neg a).txt = TX at *
    clear et
    generalize k + 2 * (Cd.neg a).sz + 1 = K at *
    simp only [Cd.W] at rk ⊢
    generalize brk a.rank 3 91 93 a.txt = XA at *
    generalize a.W = AW at *
    have tb := fun e h1 h2 h3 => tail_brk (cl := callF g K) (mkc := mkF g K) (mt := mtF g) (xf := g.xf) (xfl := g.xfl) (s := s) (e := e) (r := 3) (l := l) (o := 91) (c := 93) (t := TX) h1 h2 h3 hx
    have tb := tb [some (.tup [.str [110, 111, 116], AW]), some (.int l), some (.int 3), some (.str TX)] rfl rfl rfl
    unfold Cat
    generalize (Ss.cons (.ite (.op .lt (.v 2) (.v 1)) (.cons (.ret (.op .add (.op .add (.k (.str [91])) (.v 3)) (.k (.str [93])))) .nil) (.nil)) <| .cons (.ret (.v 3)) .nil) = TB at *
    have T1 : callF g K iA [AW, .int 3] s = .ok (.str XA) s := T1
    have rk : callF g K iQ [.tup [.str [110, 111, 116], AW]] s = .ok (.int 3) s := rk
    simp [rk, T1, a1, tb]
  | and_ a b iha ihb =>
    intro ho hz k l s hl
    simp only [Cd.sz] at hz
    rw [call_eq ha rfl]
    have T1 := iha ho.1 (by omega) (k + 2 * b.sz + 1) 2 s (by decide)
    have T2 := ihb ho.2 (by omega) (k + 2 * a.sz + 1) 3 s (by decide)
    have e1 : k + 2 * b.sz + 1 + 2 * a.sz + 2 = k + 2 * (Cd.and_ a b).sz + 1 := by simp only [Cd.sz]; omega
    have e2 : k + 2 * a.sz + 1 + 2 * b.sz + 2 = k + 2 * (Cd.and_ a b).sz + 1 := by simp only [Cd.sz]; omega
    rw [e1] at T1
    rw [e2] at T2
    have rk := qrank_sp hq (k + 2 * (Cd.and_ a b).sz) (Cd.and_ a b) s
    have l1 := Cd.txt_len ho.1
    have l2 := Cd.txt_len ho.2
    have b1 := brk_len a.rank 2 91 93 a.txt
    have b2 := brk_len b.rank 3 91 93 b.txt
    obtain ⟨a1, a2, a3, a4⟩ := add5 (s := s) (a := brk a.rank 2 91 93 a.txt) (b := [32]) (c := [97, 110, 100]) (d := [32]) (e := brk b.rank 3 91 93 b.txt) (by simp; omega)
    have hx : (Cd.and_ a b).txt.length ≤ 900000 := by
      have := Cd.txt_len (c := Cd.and_ a b) ho
      simp only [Cd.sz] at this
      omega
    have et : (Cd.and_ a b).txt = brk a.rank 2 91 93 a.txt ++ [32] ++ [97, 110, 100] ++ [32] ++ brk b.rank 3 91 93 b.txt := rfl
    have er : (Cd.and_ a b).rank = 2 := rfl
    rw [er] at rk ⊢
    rw [← et] at a4
    generalize (Cd.and_ a b).txt = TX at *
    clear et
    generalize brk a.rank 2 91 93 a.txt ++ [32] ++ [97, 110, 100] ++ [32] = X3 at *
    generalize brk a.rank 2 91 93 a.txt ++ [32] ++ [97, 110, 100] = X2 at *
    generalize brk a.rank 2 91 93 a.txt ++ [32] = X1 at *
    generalize brk a.rank 2 91 93 a.txt = XA at *
    generalize brk b.rank 3 91 93 b.txt = XB at *
    generalize k + 2 * (Cd.and_ a b).sz + 1 = K at *
    simp only [Cd.W] at rk ⊢
    generalize a.W = AW at *
    generalize b.W = BW at *
    have tb := fun e h1 h2 h3 => tail_brk (cl := callF g K) (mkc := mkF g K) (mt := mtF g) (xf := g.xf) (xfl := g.xfl) (s := s) (e := e) (r := 2) (l := l) (o := 91) (c := 93) (t := TX) h1 h2 h3 hx
    have tb := tb [some (.tup [.str [97, 110, 100], AW, BW]), some (.int l), some (.int 2), some (.str TX)] rfl rfl rfl
    unfold Cat
    generalize (Ss.cons (.ite (.op .lt (.v 2) (.v 1)) (.cons (.ret (.op .add (.op .add (.k (.str [91])) (.v 3)) (.k (.str [93])))) .nil) (.nil)) <| .cons (.ret (.v 3)) .nil) = TB at *
    have T1 : callF g K iA [AW, .int 2] s = .ok (.str XA) s := T1
    have T2 : callF g K iA [BW, .int 3] s = .ok (.str XB) s := T2
    have rk : callF g K iQ [.tup [.str [97, 110, 100], AW, BW]] s = .ok (.int 2) s := rk
    simp [rk, T1, T2, a1, a2, a3, a4, tb]
  | or_ a b iha ihb =>
    intro ho hz k l s hl
    simp only [Cd.sz] at hz
    rw [call_eq ha rfl]
    have T1 := iha ho.1 (by omega) (k + 2 * b.sz + 1) 1 s (by decide)
    have T2 := ihb ho.2 (by omega) (k + 2 * a.sz + 1) 2 s (by decide)
    have e1 : k + 2 * b.sz + 1 + 2 * a.sz + 2 = k + 2 * (Cd.or_ a b).sz + 1 := by simp only [Cd.sz]; omega
    have e2 : k + 2 * a.sz + 1 + 2 * b.sz + 2 = k + 2 * (Cd.or_ a b).sz + 1 := by simp only [Cd.sz]; omega
    rw [e1] at T1
    rw [e2] at T2
    have rk := qrank_sp hq (k + 2 * (Cd.or_ a b).sz) (Cd.or_ a b) s
    have l1 := Cd.txt_len ho.1
    have l2 := Cd.txt_len ho.2
    have b1 := brk_len a.rank 1 91 93 a.txt
    have b2 := brk_len b.rank 2 91 93 b.txt
    obtain ⟨a1, a2, a3, a4⟩ := add5 (s := s) (a := brk a.rank 1 91 93 a.txt) (b := [32]) (c := [111, 114]) (d := [32]) (e := brk b.rank 2 91 93 b.txt) (by simp; omega)
    have hx : (Cd.or_ a b).txt.length ≤ 900000 := by
      have := Cd.txt_len (c := Cd.or_ a b) ho
      simp only [Cd.sz] at this
      omega
    have et : (Cd.or_ a b).txt = brk a.rank 1 91 93 a.txt ++ [32] ++ [111, 114] ++ [32] ++ brk b.rank 2 91 93 b.txt := rfl
    have er : (Cd.or_ a b).rank = 1 := rfl
    rw [er] at rk ⊢
    rw [← et] at a4
    generalize (Cd.or_ a b).txt = TX at *
    clear et
    generalize brk a.rank 1 91 93 a.txt ++ [32] ++ [111, 114] ++ [32] = X3 at *
    generalize brk a.rank 1 91 93 a.txt ++ [32] ++ [111, 114] = X2 at *
    generalize brk a.rank 1 91 93 a.txt ++ [32] = X1 at *
    generalize brk a.rank 1 91 93 a.txt = XA at *
    generalize brk b.rank 2 91 93 b.txt = XB at *
    generalize k + 2 * (Cd.or_ a b).sz + 1 = K at *
    simp only [Cd.W] at rk ⊢
    generalize a.W = AW at *
    generalize b.W = BW at *
    have tb := fun e h1 h2 h3 => tail_brk (cl := callF g K) (mkc := mkF g K) (mt := mtF g) (xf := g.xf) (xfl := g.xfl) (s := s) (e := e) (r := 1) (l := l) (o := 91) (c := 93) (t := TX) h1 h2 h3 hx
    have tb := tb [some (.tup [.str [111, 114], AW, BW]), some (.int l), some (.int 1), some (.str TX)] rfl rfl rfl
    unfold Cat
    generalize (Ss.cons (.ite (.op .lt (.v 2) (.v 1)) (.cons (.ret (.op .add (.op .add (.k (.str [91])) (.v 3)) (.k (.str [93])))) .nil) (.nil)) <| .cons (.ret (.v 3)) .nil) = TB at *
    have T1 : callF g K iA [AW, .int 1] s = .ok (.str XA) s := T1
    have T2 : callF g K iA [BW, .int 2] s = .ok (.str XB) s := T2
    have rk : callF g K iQ [.tup [.str [111, 114], AW, BW]] s = .ok (.int 1) s := rk
    simp [rk, T1, T2, a1, a2, a3, a4, tb]
def Ccond (iA : Nat) : Ss := .cons (.ret (.call iA (.cons (.v 0) (.cons (.k (.int 1)) .nil)) [])) .nil
theorem showC_sp (h : g.fns[iC]? = some ⟨1, 1, Ccond iA, .raw⟩) {c : Cd} (A : CondSp g iA c) (k : Nat) (s : St) : callF g (k + 2 * c.sz + 3) iC [c.W] s = .ok (.str c.txt) s := by
  rw [call_eq h rfl]
  have T := A k 1 s (by decide)
  have hb : brk c.rank 1 91 93 c.txt = c.txt := if_neg (by cases c <;> simp [Cd.rank])
  rw [hb] at T
  generalize k + 2 * c.sz + 2 = K at *
  generalize c.txt = TX at *
  generalize c.W = CW at *
  have T : callF g K iA [CW, .int 1] s = .ok (.str TX) s := T
  simp [Ccond, T]
end
end Px

set_option linter.all false
set_option maxRecDepth 100000
set_option maxHeartbeats 0
/-! Px26: what conditions ask for: parts_of, collect, asked_by. -/
namespace Px
open PySem L2
/-- a term or a condition -/
inductive Th where
  | tm (t : Tm) | cd (c : Cd)
def Th.W : Th → Px.W
  | .tm t => t.W
  | .cd c => c.W
def Th.sz : Th → Nat
  | .tm t => t.sz
  | .cd c => c.sz
def Th.parts : Th → List Th
  | .tm (.sum _ a b) => [.tm a, .tm b]
  | .tm (.abs a) => [.tm a]
  | .tm (.times _ _ a) => [.tm a]
  | .tm _ => []
  | .cd (.cmp _ a b) => [.tm a, .tm b]
  | .cd (.neg a) => [.cd a]
  | .cd (.and_ a b) => [.cd a, .cd b]
  | .cd (.or_ a b) => [.cd a, .cd b]
/-- what is asked for, but here -/
inductive Ask where
  | back (n : Nat) | on (n : Nat) | at_ (w : List Nat)
  deriving DecidableEq
def Ask.W : Ask → Px.W
  | .back n => .tup [.str [98, 97, 99, 107], .int n]
  | .on n => .tup [.str [111, 110], .int n]
  | .at_ w => .tup [.str [97, 116], .str w]
def farAsk (k : Fin 4) (n : Nat) : Ask := match k with
  | 0 => .back n
  | 1 => .on n
  | 2 => .back n
  | 3 => .on n
def Tm.asks : Tm → List Ask
  | .far k n => [farAsk k n]
  | .at_ w => [.at_ w]
  | .sum _ a b => a.asks ++ b.asks
  | .abs a => a.asks
  | .times _ _ a => a.asks
  | _ => []
def Cd.asks : Cd → List Ask
  | .cmp _ a b => a.asks ++ b.asks
  | .neg a => a.asks
  | .and_ a b => a.asks ++ b.asks
  | .or_ a b => a.asks ++ b.asks
def Th.asks : Th → List Ask
  | .tm t => t.asks
  | .cd c => c.asks
theorem ask_eqv (a b : Ask) : eqv a.W b.W = decide (a = b) := by
  cases a with
  | back n => cases b with
    | back m => by_cases h : n = m <;> simp [Ask.W, eqv, eqvL, h] <;> omega
    | on m => simp [Ask.W, eqv, eqvL]
    | at_ m => simp [Ask.W, eqv, eqvL]
  | on n => cases b with
    | back m => simp [Ask.W, eqv, eqvL]
    | on m => by_cases h : n = m <;> simp [Ask.W, eqv, eqvL, h] <;> omega
    | at_ m => simp [Ask.W, eqv, eqvL]
  | at_ n => cases b with
    | back m => simp [Ask.W, eqv, eqvL]
    | on m => simp [Ask.W, eqv, eqvL]
    | at_ m => by_cases h : n = m <;> simp [Ask.W, eqv, eqvL, h]
theorem ask_key (a : Ask) : isTK a.W = true := by cases a <;> simp [Ask.W, isTK, isKey]
def addK (ks : List Ask) (a : Ask) : List Ask := if a ∈ ks then ks else ks ++ [a]
def dK (ks : List Ask) : List (W × W) := ks.map fun a => (a.W, .bl true)
theorem dK_any (ks : List Ask) (a : Ask) : ((dK ks).any fun p => eqv p.1 a.W) = decide (a ∈ ks) := by
  unfold dK
  rw [List.any_map]
  have e : ((fun p : W × W => eqv p.1 a.W) ∘ fun a : Ask => (a.W, W.bl true)) = fun b => decide (b = a) := funext fun b => ask_eqv b a
  rw [e]
  by_cases h : a ∈ ks
  · rw [decide_eq_true h, List.any_eq_true]
    exact ⟨a, h, by simp⟩
  · rw [decide_eq_false h, List.any_eq_false]
    intro b hb hh
    have : b = a := by simpa using hh
    subst this; exact h hb
theorem dK_put (ks : List Ask) (a : Ask) : putD (dK ks) a.W (.bl true) = dK (addK ks a) := by
  unfold putD addK
  rw [dK_any]
  by_cases h : a ∈ ks
  · rw [decide_eq_true h, if_pos rfl, if_pos h]
    unfold dK
    rw [List.map_map]
    refine List.map_congr_left fun b _ => ?_
    simp only [Function.comp]
    split <;> rfl
  · rw [decide_eq_false h, if_neg (by decide), if_neg h]
    unfold dK
    rw [List.map_append]; rfl
theorem dK_len (ks : List Ask) : (dK ks).length = ks.length := by unfold dK; rw [List.length_map]
theorem addK_len (ks : List Ask) (a : Ask) : (addK ks a).length ≤ ks.length + 1 := by unfold addK; split <;> simp
theorem fold_len : ∀ (as ks : List Ask), (as.foldl addK ks).length ≤ ks.length + as.length
  | [], ks => Nat.le_refl _
  | a :: as, ks => by
    have := fold_len as (addK ks a)
    have := addK_len ks a
    rw [List.foldl_cons, List.length_cons]; omega
theorem addK_mem (ks : List Ask) (a b : Ask) : b ∈ addK ks a ↔ b ∈ ks ∨ b = a := by
  unfold addK
  split
  · rename_i h
    exact ⟨.inl, fun z => z.elim id fun e => e ▸ h⟩
  · simp
theorem fold_mem : ∀ (as ks : List Ask) (b : Ask), b ∈ as.foldl addK ks ↔ b ∈ ks ∨ b ∈ as
  | [], ks, b => by simp
  | a :: as, ks, b => by rw [List.foldl_cons, fold_mem as, addK_mem, List.mem_cons, or_assoc]
theorem addK_nd {ks : List Ask} (a : Ask) (h : ks.Nodup) : (addK ks a).Nodup := by
  unfold addK
  split
  · exact h
  · rename_i n
    rw [List.nodup_append]
    exact ⟨h, by simp, fun x hx y hy => by
      have : y = a := by simpa using hy
      subst this; intro e; subst e; exact n hx⟩
theorem fold_nd : ∀ (as : List Ask) {ks : List Ask}, ks.Nodup → (as.foldl addK ks).Nodup
  | [], _, h => h
  | a :: as, _, h => fold_nd as (addK_nd a h)
theorem Tm.sz_pos (t : Tm) : 0 < t.sz := by cases t <;> simp only [Tm.sz] <;> omega
theorem Cd.sz_pos (t : Cd) : 0 < t.sz := by cases t <;> simp only [Cd.sz] <;> omega
theorem Tm.asks_len : ∀ t : Tm, t.asks.length ≤ t.sz
  | .num _ _ => by simp [Tm.asks]
  | .here => by simp [Tm.asks]
  | .at_ _ => by simp [Tm.asks, Tm.sz]
  | .far _ _ => by simp [Tm.asks, Tm.sz]
  | .sum _ a b => by have := a.asks_len; have := b.asks_len; simp only [Tm.asks, Tm.sz, List.length_append]; omega
  | .abs a => by have := a.asks_len; simp only [Tm.asks, Tm.sz]; omega
  | .times _ _ a => by have := a.asks_len; simp only [Tm.asks, Tm.sz]; omega
theorem Cd.asks_len : ∀ t : Cd, t.asks.length ≤ t.sz
  | .cmp _ a b => by have := a.asks_len; have := b.asks_len; simp only [Cd.asks, Cd.sz, List.length_append]; omega
  | .neg a => by have := a.asks_len; simp only [Cd.asks, Cd.sz]; omega
  | .and_ a b => by have := a.asks_len; have := b.asks_len; simp only [Cd.asks, Cd.sz, List.length_append]; omega
  | .or_ a b => by have := a.asks_len; have := b.asks_len; simp only [Cd.asks, Cd.sz, List.length_append]; omega
theorem Th.asks_len (t : Th) : t.asks.length ≤ t.sz := by cases t; exact Tm.asks_len _; exact Cd.asks_len _
theorem Th.sz_pos (t : Th) : 0 < t.sz := by cases t; exact Tm.sz_pos _; exact Cd.sz_pos _

abbrev tFAR : List (List Nat × W) := [([98, 97, 99, 107], .str [98, 97, 99, 107]), ([97, 103, 111], .str [98, 97, 99, 107]), ([111, 110], .str [111, 110]), ([117, 110, 116, 105, 108], .str [111, 110])]
def Cparts : Ss :=
  .cons (.ite (.or_ (.op .in_ (.ix (.v 0) (.k (.int 0))) (.tup (.cons (.k (.str [110, 117, 109])) (.cons (.k (.str [104, 101, 114, 101])) (.cons (.k (.str [97, 116])) .nil))))) (.kin false (.ix (.v 0) (.k (.int 0))) tFAR)) (.cons (.ret (.lst true (.nil))) .nil) (.nil)) <|
  .cons (.ite (.op .eq (.ix (.v 0) (.k (.int 0))) (.k (.str [116, 105, 109, 101, 115]))) (.cons (.ret (.lst true (.cons (.ix (.v 0) (.k (.int 2))) .nil))) .nil) (.nil)) <|
  .cons (.ret (.bi true .list (.cons (.sl true (.v 0) (.cons (.k (.int 1)) .nil) (.nil)) .nil))) .nil
def Ccollect (iP iC : Nat) : Ss :=
  .cons (.ite (.kin false (.ix (.v 0) (.k (.int 0))) tFAR) (.cons (.setI (.v 1) (.tup (.cons (.kix tFAR (.ix (.v 0) (.k (.int 0)))) (.cons (.ix (.v 0) (.k (.int 1))) .nil))) (.k (.bl true))) .nil) (.cons (.ite (.op .eq (.ix (.v 0) (.k (.int 0))) (.k (.str [97, 116]))) (.cons (.setI (.v 1) (.v 0) (.k (.bl true))) .nil) (.nil)) .nil)) <|
  .cons (.for_ (.one 2) (.val (.call iP (.cons (.v 0) .nil) [])) (.cons (.ex (.call iC (.cons (.v 2) (.cons (.v 1) .nil)) [])) .nil)) .nil
def CaskedBy (iC : Nat) : Ss :=
  .cons (.set 1 (.dct true (.nil))) <|
  .cons (.ex (.call iC (.cons (.v 0) (.cons (.v 1) .nil)) [])) <|
  .cons (.set 2 (.lst true (.cons (.k (.tup [.str [104, 101, 114, 101]])) .nil))) <|
  .cons (.for_ (.one 3) (.val (.tup (.cons (.k (.str [98, 97, 99, 107])) (.cons (.k (.str [111, 110])) (.cons (.k (.str [97, 116])) .nil))))) (.cons (.set 2 (.op .add (.v 2) (.bi true .sorted (.cons (.lc true (.one 4) (.val (.v 1)) (.op .eq (.ix (.v 4) (.k (.int 0))) (.v 3)) (.v 4)) .nil)))) .nil)) <|
  .cons (.ret (.v 2)) .nil
section
variable {g : Gd} {iP iC iA : Nat}
theorem in3 {s : St} {x : List Nat} {l : List W} (hx : dat 60 (.str x) = true) (hl : datL 59 l = true) : inR s (.str x) (.tup l) = some (l.any fun z => eqv z (.str x)) := by
  have e : inR s (.str x) (.tup l) = (match listOf s (.tup l) with
    | some l => if dat 60 (seen s (.str x)) = true ∧ datL 59 l = true then some (l.any fun z => eqv z (seen s (.str x))) else none
    | none => (match dictOf s (.tup l) with
      | some d => if keyOk d.1 (.str x) = true then some (lookD d.2 (.str x)).isSome else none
      | none => none)) := by
    cases x with
    | nil => rfl
    | cons c r => cases r <;> rfl
  rw [e]
  show (if dat 60 (.str x) = true ∧ datL 59 l = true then some (l.any fun z => eqv z (.str x)) else none) = _
  rw [if_pos ⟨hx, hl⟩]
def PartsSp (g : Gd) (i : Nat) : Prop := ∀ (k : Nat) (t : Th) (s : St), callF g (k + 1) i [t.W] s = .ok (.lst (t.parts.map Th.W)) s
theorem cut1 {α : Type} (x : α) (l : List α) : cut (x :: l) (some 1) none = l := by
  unfold cut
  have e1 : HT.sIx (x :: l).length 0 (some 1) = 1 := by simp [HT.sIx] <;> omega
  have e2 : HT.sIx (x :: l).length (x :: l).length none = (x :: l).length := rfl
  rw [e1, e2]
  exact List.take_of_length_le (by simp)
theorem sl1 {fz : Bool} {s : St} (x : W) (l : List W) : slW fz s (.tup (x :: l)) (some 1) none = .ok (.tup l) s := by
  have e1 : HT.sIx (x :: l).length 0 (some 1) = 1 := by simp [HT.sIx] <;> omega
  show (if HT.sIx (x :: l).length 0 (some 1) = 0 ∧ HT.sIx (x :: l).length (x :: l).length none = (x :: l).length then R.bad else R.ok (W.tup (cut (x :: l) (some 1) none)) s) = _
  rw [e1, cut1]
  exact if_neg (by simp)
theorem bi_listT {s : St} {l : List W} : biW true .list [.tup l] s = .ok (.lst l) s := rfl
theorem parts_sp (h : g.fns[iP]? = some ⟨1, 1, Cparts, .raw⟩) : PartsSp g iP := fun k t s => by
  rw [call_eq h rfl]
  have i0 : ∀ x, dat 60 (.str x) = true → inR s (.str x) (.tup [.str [110, 117, 109], .str [104, 101, 114, 101], .str [97, 116]]) = some (([.str [110, 117, 109], .str [104, 101, 114, 101], .str [97, 116]] : List W).any fun z => eqv z (.str x)) := fun x hx => in3 hx (by decide)
  cases t with
  | tm t =>
    cases t with
    | num p q => simp [Cparts, Th.W, Tm.W, Th.parts, i0 _ (show dat 60 (.str [110, 117, 109]) = true by decide), eqv]
    | here => simp [Cparts, Th.W, Tm.W, Th.parts, i0 _ (show dat 60 (.str [104, 101, 114, 101]) = true by decide), eqv]
    | at_ w => simp [Cparts, Th.W, Tm.W, Th.parts, i0 _ (show dat 60 (.str [97, 116]) = true by decide), eqv]
    | far q n =>
      match q with
      | 0 => simp [Cparts, Th.W, Tm.W, Th.parts, farL, i0 _ (show dat 60 (.str [98, 97, 99, 107]) = true by decide), eqv, kinW, List.lookup]
      | 1 => simp [Cparts, Th.W, Tm.W, Th.parts, farL, i0 _ (show dat 60 (.str [111, 110]) = true by decide), eqv, kinW, List.lookup]
      | 2 => simp [Cparts, Th.W, Tm.W, Th.parts, farL, i0 _ (show dat 60 (.str [97, 103, 111]) = true by decide), eqv, kinW, List.lookup]
      | 3 => simp [Cparts, Th.W, Tm.W, Th.parts, farL, i0 _ (show dat 60 (.str [117, 110, 116, 105, 108]) = true by decide), eqv, kinW, List.lookup]
    | sum m a b =>
      cases m
      · simp [Cparts, Th.W, Tm.W, Th.parts, sgnL, i0 _ (show dat 60 (.str [43]) = true by decide), eqv, kinW, List.lookup, sl1, bi_listT]
      · simp [Cparts, Th.W, Tm.W, Th.parts, sgnL, i0 _ (show dat 60 (.str [45]) = true by decide), eqv, kinW, List.lookup, sl1, bi_listT]
    | abs a => simp [Cparts, Th.W, Tm.W, Th.parts, i0 _ (show dat 60 (.str [97, 98, 115]) = true by decide), eqv, kinW, List.lookup, sl1, bi_listT]
    | times p q a => simp [Cparts, Th.W, Tm.W, Th.parts, i0 _ (show dat 60 (.str [116, 105, 109, 101, 115]) = true by decide), eqv, kinW, List.lookup]
  | cd c =>
    cases c with
    | cmp e a b =>
      cases e
      · simp [Cparts, Th.W, Cd.W, Th.parts, cmpL, i0 _ (show dat 60 (.str [60]) = true by decide), eqv, kinW, List.lookup, sl1, bi_listT]
      · simp [Cparts, Th.W, Cd.W, Th.parts, cmpL, i0 _ (show dat 60 (.str [61]) = true by decide), eqv, kinW, List.lookup, sl1, bi_listT]
    | neg a => simp [Cparts, Th.W, Cd.W, Th.parts, i0 _ (show dat 60 (.str [110, 111, 116]) = true by decide), eqv, kinW, List.lookup, sl1, bi_listT]
    | and_ a b => simp [Cparts, Th.W, Cd.W, Th.parts, i0 _ (show dat 60 (.str [97, 110, 100]) = true by decide), eqv, kinW, List.lookup, sl1, bi_listT]
    | or_ a b => simp [Cparts, Th.W, Cd.W, Th.parts, i0 _ (show dat 60 (.str [111, 114]) = true by decide), eqv, kinW, List.lookup, sl1, bi_listT]
/-! ### collect -/
def Th.own : Th → List Ask
  | .tm (.far k n) => [farAsk k n]
  | .tm (.at_ w) => [.at_ w]
  | _ => []
theorem Th.asks_eq (t : Th) : t.asks = t.own ++ (t.parts.map Th.asks).flatten := by
  cases t with
  | tm t => cases t <;> simp [Th.asks, Tm.asks, Th.own, Th.parts]
  | cd c => cases c <;> simp [Th.asks, Cd.asks, Th.own, Th.parts]
theorem Th.parts_sz (t : Th) : ∀ p ∈ t.parts, p.sz < t.sz := by
  cases t with
  | tm t => cases t <;> simp [Th.parts, Th.sz, Tm.sz] <;> omega
  | cd c => cases c <;> simp [Th.parts, Th.sz, Cd.sz] <;> omega
theorem setI_dict {s : St} {n : Nat} {ks : List Ask} {a : Ask} (e : s[n]? = some (.dict true (dK ks))) (hl : ks.length < 10000000) : setIW s (.ref n) a.W (.bl true) = some (s.set n (.dict true (dK (addK ks a)))) := by
  have hl' : (dK ks).length < line := by rw [dK_len]; show _ < 16777216; omega
  have e1 : setIW s (.ref n) a.W (.bl true) = (match s[n]? with
    | some (.lst l) => (match a.W with
      | .int i => (L2.ixN l.length i).map fun j => s.set n (.lst (l.set j (.bl true)))
      | _ => none)
    | some (.dict t l) => if keyOk t a.W = true ∧ l.length < line then some (s.set n (.dict t (putD l a.W (.bl true)))) else none
    | _ => none) := rfl
  rw [e1, e]
  show (if keyOk true a.W = true ∧ (dK ks).length < line then some (s.set n (.dict true (putD (dK ks) a.W (.bl true)))) else none) = _
  rw [if_pos ⟨ask_key a, hl'⟩, dK_put]
theorem set_at {s : St} {n : Nat} {x y : O} (e : s[n]? = some x) : (s.set n y)[n]? = some y := List.getElem?_set_self (List.getElem?_eq_some_iff.mp e).1
theorem set_set {s : St} {n : Nat} {x y : O} : (s.set n x).set n y = s.set n y := List.set_set ..
def CollectSp (g : Gd) (i : Nat) : Prop := ∀ (k : Nat) (t : Th) (s : St) (n : Nat) (ks : List Ask), s[n]? = some (.dict true (dK ks)) → ks.length + t.sz ≤ 1000000 → callF g (k + t.sz + 1) i [t.W, .ref n] s = .ok .non (s.set n (.dict true (dK (t.asks.foldl addK ks))))
theorem collect_sp (h : g.fns[iC]? = some ⟨2, 3, Ccollect iP iC, .raw⟩) (P : PartsSp g iP) : CollectSp g iC := by
  have main : ∀ (m : Nat) (k : Nat) (t : Th) (s : St) (n : Nat) (ks : List Ask), t.sz ≤ m → s[n]? = some (.dict true (dK ks)) → ks.length + t.sz ≤ 1000000 → callF g (k + t.sz + 1) iC [t.W, .ref n] s = .ok .non (s.set n (.dict true (dK (t.asks.foldl addK ks)))) := by
    intro m
    induction m with
    | zero => intro k t s n ks hm; have := t.sz_pos; omega
    | succ m ih =>
      intro k t s n ks hm e hl
      rw [call_eq h rfl]
      have hp := t.sz_pos
      -- the head's own
      have own : ∀ (r : Ss), evSs (callF g (k + t.sz)) (mkF g (k + t.sz)) (mtF g) g.xf g.xfl (.cons (at_ 0 (Ccollect iP iC)) r) [some t.W, some (.ref n), none] s = evSs (callF g (k + t.sz)) (mkF g (k + t.sz)) (mtF g) g.xf g.xfl r [some t.W, some (.ref n), none] (s.set n (.dict true (dK (t.own.foldl addK ks)))) := by
        intro r
        have same : s.set n (.dict true (dK ks)) = s := by
          refine List.ext_getElem? fun i => ?_
          by_cases hi : n = i
          · subst hi; rw [set_at e, e]
          · rw [List.getElem?_set_ne hi]
        cases t with
        | tm t =>
          cases t with
          | far q j =>
            have s1 := setI_dict (a := farAsk q j) e (by omega)
            match q with
            | 0 => simp [at_, Ccollect, Th.W, Tm.W, farL, kinW, kixW, List.lookup, Th.own]; exact (by rw [show W.tup [W.str [98, 97, 99, 107], W.int ↑j] = (farAsk 0 j).W from rfl, s1])
            | 1 => simp [at_, Ccollect, Th.W, Tm.W, farL, kinW, kixW, List.lookup, Th.own]; exact (by rw [show W.tup [W.str [111, 110], W.int ↑j] = (farAsk 1 j).W from rfl, s1])
            | 2 => simp [at_, Ccollect, Th.W, Tm.W, farL, kinW, kixW, List.lookup, Th.own]; exact (by rw [show W.tup [W.str [98, 97, 99, 107], W.int ↑j] = (farAsk 2 j).W from rfl, s1])
            | 3 => simp [at_, Ccollect, Th.W, Tm.W, farL, kinW, kixW, List.lookup, Th.own]; exact (by rw [show W.tup [W.str [111, 110], W.int ↑j] = (farAsk 3 j).W from rfl, s1])
          | at_ w =>
            have s1 := setI_dict (a := .at_ w) e (by omega)
            simp [at_, Ccollect, Th.W, Tm.W, kinW, List.lookup, Th.own]
            exact (by rw [show W.tup [W.str [97, 116], W.str w] = (Ask.at_ w).W from rfl, s1])
          | num p q => simp [at_, Ccollect, Th.W, Tm.W, kinW, List.lookup, Th.own, same]
          | here => simp [at_, Ccollect, Th.W, Tm.W, kinW, List.lookup, Th.own, same]
          | sum m a b => cases m <;> simp [at_, Ccollect, Th.W, Tm.W, kinW, List.lookup, Th.own, same, sgnL]
          | abs a => simp [at_, Ccollect, Th.W, Tm.W, kinW, List.lookup, Th.own, same]
          | times p q a => simp [at_, Ccollect, Th.W, Tm.W, kinW, List.lookup, Th.own, same]
        | cd c =>
          cases c with
          | cmp e a b => cases e <;> simp [at_, Ccollect, Th.W, Cd.W, kinW, List.lookup, Th.own, same, cmpL]
          | neg a => simp [at_, Ccollect, Th.W, Cd.W, kinW, List.lookup, Th.own, same]
          | and_ a b => simp [at_, Ccollect, Th.W, Cd.W, kinW, List.lookup, Th.own, same]
          | or_ a b => simp [at_, Ccollect, Th.W, Cd.W, kinW, List.lookup, Th.own, same]
      -- the parts, one by one
      have walk : ∀ (ps : List Th) (x : Option W) (s : St) (ks : List Ask), (∀ p ∈ ps, p.sz < t.sz) → s[n]? = some (.dict true (dK ks)) → ks.length + (ps.map Th.sz).sum ≤ 1000000 → ∃ x', forL (fun _ => True) (.one 2) (evSs (callF g (k + t.sz)) (mkF g (k + t.sz)) (mtF g) g.xf g.xfl (lpB (at_ 1 (Ccollect iP iC)))) (ps.map Th.W) [some t.W, some (.ref n), x] s = .nx [some t.W, some (.ref n), x'] (s.set n (.dict true (dK ((ps.map Th.asks).flatten.foldl addK ks)))) := by
        intro ps
        induction ps with
        | nil =>
          intro x s ks _ e _
          refine ⟨x, ?_⟩
          have same : s.set n (.dict true (dK ks)) = s := by
            refine List.ext_getElem? fun i => ?_
            by_cases hi : n = i
            · subst hi; rw [set_at e, e]
            · rw [List.getElem?_set_ne hi]
          rw [List.map_nil, forL_nil, if_pos trivial]
          simp [same]
        | cons p ps ihp =>
          intro x s ks hs e hz
          have h1 := hs p List.mem_cons_self
          rw [List.map_cons, List.sum_cons] at hz
          have c1 := ih (k + t.sz - p.sz - 1) p s n ks (by omega) e (by omega)
          rw [show k + t.sz - p.sz - 1 + p.sz + 1 = k + t.sz by omega] at c1
          obtain ⟨x', e2⟩ := ihp (some p.W) (s.set n (.dict true (dK (p.asks.foldl addK ks)))) (p.asks.foldl addK ks) (fun q hq => hs q (List.mem_cons_of_mem _ hq)) (set_at e) (by have := fold_len p.asks ks; have := p.asks_len; omega)
          refine ⟨x', ?_⟩
          rw [List.map_cons, forL_cons trivial rfl]
          have b1 : evSs (callF g (k + t.sz)) (mkF g (k + t.sz)) (mtF g) g.xf g.xfl (lpB (at_ 1 (Ccollect iP iC))) [some t.W, some (.ref n), some p.W] s = .nx [some t.W, some (.ref n), some p.W] (s.set n (.dict true (dK (p.asks.foldl addK ks)))) := by
            simp [lpB, at_, Ccollect, c1]
          show (match evSs (callF g (k + t.sz)) (mkF g (k + t.sz)) (mtF g) g.xf g.xfl (lpB (at_ 1 (Ccollect iP iC))) [some t.W, some (.ref n), some p.W] s with
            | .nx e2 s2 => forL (fun _ => True) (.one 2) (evSs (callF g (k + t.sz)) (mkF g (k + t.sz)) (mtF g) g.xf g.xfl (lpB (at_ 1 (Ccollect iP iC)))) (ps.map Th.W) e2 s2
            | .ct e2 s2 => forL (fun _ => True) (.one 2) (evSs (callF g (k + t.sz)) (mkF g (k + t.sz)) (mtF g) g.xf g.xfl (lpB (at_ 1 (Ccollect iP iC)))) (ps.map Th.W) e2 s2
            | .brk e2 s2 => .nx e2 s2
            | r => r) = _
          rw [b1]
          show forL _ _ _ _ _ _ = _
          rw [e2, set_set, List.map_cons, List.flatten_cons, List.foldl_append]
      have o1 := own (tl 1 (Ccollect iP iC))
      have pz : ((t.parts.map Th.sz).sum) ≤ t.sz - t.own.length := by
        cases t with
        | tm t => cases t <;> simp [Th.parts, Th.sz, Tm.sz, Th.own] <;> omega
        | cd c => cases c <;> simp [Th.parts, Th.sz, Cd.sz, Th.own] <;> omega
      have ol : t.own.length ≤ 1 := by
        cases t with
        | tm t => cases t <;> simp [Th.own]
        | cd c => cases c <;> simp [Th.own]
      have fl := fold_len t.own ks
      obtain ⟨x', w1⟩ := walk t.parts none (s.set n (.dict true (dK (t.own.foldl addK ks)))) (t.own.foldl addK ks) t.parts_sz (set_at e) (by omega)
      have pp := P (k + t.sz - 1) t (s.set n (.dict true (dK (t.own.foldl addK ks))))
      rw [show k + t.sz - 1 + 1 = k + t.sz by omega] at pp
      have b0 : Ccollect iP iC = .cons (at_ 0 (Ccollect iP iC)) (tl 1 (Ccollect iP iC)) := rfl
      have b1 : tl 1 (Ccollect iP iC) = .cons (.for_ (.one 2) (.val (.call iP (.cons (.v 0) .nil) [])) (lpB (at_ 1 (Ccollect iP iC)))) .nil := rfl
      show fin .raw s (evSs _ _ _ _ _ (Ccollect iP iC) [some t.W, some (.ref n), none] s) = _
      rw [b0, o1, b1]
      have q0 : evE (callF g (k + t.sz)) (mkF g (k + t.sz)) (mtF g) (.call iP (.cons (.v 0) .nil) []) [some t.W, some (.ref n), none] (s.set n (.dict true (dK (t.own.foldl addK ks)))) = .ok (.lst (t.parts.map Th.W)) (s.set n (.dict true (dK (t.own.foldl addK ks)))) := by
        simp [pp]
      rw [forL_step q0 w1, ss_nil, set_set, t.asks_eq, List.foldl_append]
      rfl
  exact fun k t s n ks => main t.sz k t s n ks (Nat.le_refl _)
/-! ### asked_by -/
def hereW : W := .tup [.str [104, 101, 114, 101]]
def isBack : Ask → Bool
  | .back _ => true
  | _ => false
def isOn : Ask → Bool
  | .on _ => true
  | _ => false
def isAt : Ask → Bool
  | .at_ _ => true
  | _ => false
/-- all that is asked for: each once -/
def Cd.keys (c : Cd) : List Ask := c.asks.foldl addK []
def srtA (p : Ask → Bool) (ks : List Ask) : List W := srt ((ks.filter p).map Ask.W)
def Cd.asked (c : Cd) : List Px.W := hereW :: (srtA isBack c.keys ++ srtA isOn c.keys ++ srtA isAt c.keys)
def kindL (i : Fin 3) : List Nat := match i with
  | 0 => [98, 97, 99, 107]
  | 1 => [111, 110]
  | 2 => [97, 116]
def kindP (i : Fin 3) : Ask → Bool := match i with
  | 0 => isBack
  | 1 => isOn
  | 2 => isAt
def wordOk (w : List Nat) : Prop := w.length ≤ 100 ∧ ∀ x ∈ w, x < 128
def Ask.ok : Ask → Prop
  | .at_ w => ∀ x ∈ w, x < 128
  | _ => True
theorem ask_head (a : Ask) (i : Fin 3) (s : St) : (ixW s a.W (.int 0)).bind (fun x s => op2 .eq x (.str (kindL i)) s) = .ok (.bl (kindP i a)) s := by
  match i with
  | 0 => cases a <;> simp [Ask.W, kindL, kindP, isBack]
  | 1 => cases a <;> simp [Ask.W, kindL, kindP, isOn]
  | 2 => cases a <;> simp [Ask.W, kindL, kindP, isAt]
theorem ask_dat {d : Nat} {a : Ask} (h : a.ok) : dat (d + 1) a.W = true := by
  cases a with
  | back n => simp [Ask.W, dat, datL]
  | on n => simp [Ask.W, dat, datL]
  | at_ w =>
    have : dat d (.str w) = true := dat_str h
    simp [Ask.W, dat_tup, datL_cons, this, datL_nil]
    simp [dat]
theorem ask_alike (i : Fin 3) {a b : Ask} (ha : kindP i a = true) (hb : kindP i b = true) : PySem.W.alike (toD a.W) (toD b.W) = true := by
  match i with
  | 0 => cases a <;> simp [kindP, isBack] at ha <;> cases b <;> simp [kindP, isBack] at hb <;> simp [Ask.W, toD, toDs, PySem.W.alike, PySem.W.alikeAll]
  | 1 => cases a <;> simp [kindP, isOn] at ha <;> cases b <;> simp [kindP, isOn] at hb <;> simp [Ask.W, toD, toDs, PySem.W.alike, PySem.W.alikeAll]
  | 2 => cases a <;> simp [kindP, isAt] at ha <;> cases b <;> simp [kindP, isAt] at hb <;> simp [Ask.W, toD, toDs, PySem.W.alike, PySem.W.alikeAll]
theorem ask_srt (i : Fin 3) {ks : List Ask} (hk : ∀ a ∈ ks, a.ok) (hl : ks.length ≤ 1000000) : srtOk ((ks.filter (kindP i)).map Ask.W) = true := by
  unfold srtOk
  simp only [Bool.and_eq_true, decide_eq_true_eq, List.all_eq_true, Bool.or_eq_true, List.mem_map, List.mem_filter, List.length_map]
  refine ⟨⟨⟨datL_map fun a ha => ask_dat (hk a (List.mem_filter.mp ha).1), ?_⟩, .inl ?_⟩, ?_⟩
  · rintro x ⟨a, ⟨_, ha⟩, rfl⟩ y ⟨b, ⟨_, hb⟩, rfl⟩
    exact ask_alike i ha hb
  · rintro x ⟨a, _, rfl⟩
    cases a <;> rfl
  · have := List.length_filter_le (kindP i) ks
    show _ ≤ 16777216; omega
theorem srt_len (l : List W) : (srt l).length = l.length := (srt_perm l).length_eq
theorem srtA_len (p : Ask → Bool) (ks : List Ask) : (srtA p ks).length ≤ ks.length := by
  unfold srtA
  rw [srt_len, List.length_map]
  exact List.length_filter_le _ _
def AskedSp (g : Gd) (i : Nat) : Prop := ∀ (k : Nat) (c : Cd) (s : St), c.sz ≤ 100000 → (∀ a ∈ c.asks, a.ok) → callF g (k + c.sz + 2) i [c.W] s = .ok (.lst c.asked) s
theorem asked_sp (h : g.fns[iA]? = some ⟨1, 5, CaskedBy iC, .pure⟩) (C : CollectSp g iC) : AskedSp g iA := by
  intro k c s hz hk
  rw [call_eq h rfl]
  have key_ok : ∀ a ∈ c.keys, a.ok := fun a ha => hk a (by have := (fold_mem c.asks [] a).mp ha; simpa using this)
  have kl : c.keys.length ≤ 100000 := by have := fold_len c.asks []; have := c.asks_len; simp at *; unfold Cd.keys; omega
  have e0 : (s ++ [O.dict true []])[s.length]? = some (.dict true (dK [])) := at_end
  have c1 := C k (.cd c) (s ++ [.dict true []]) s.length [] e0 (by show 0 + c.sz ≤ 1000000; omega)
  have c1 : callF g (k + c.sz + 1) iC [c.W, .ref s.length] (s ++ [.dict true []]) = .ok .non (s ++ [.dict true (dK c.keys)]) := by
    have z := c1
    rw [set_end] at z
    exact z
  generalize hS : s ++ [O.dict true (dK c.keys)] = S at c1
  have eS : S[s.length]? = some (.dict true (dK c.keys)) := by rw [← hS]; exact at_end
  have walk : ∀ (i : Fin 3) (acc : List W) (e1 e2 e4 : Option W), acc.length ≤ 1000000 → ∃ e4', evSs (callF g (k + c.sz + 1)) (mkF g (k + c.sz + 1)) (mtF g) g.xf g.xfl (lpB (at_ 3 (CaskedBy iC))) [e1, some (.ref s.length), some (.lst acc), some (.str (kindL i)), e4] S = .nx [e1, some (.ref s.length), some (.lst (acc ++ srtA (kindP i) c.keys)), some (.str (kindL i)), e4'] S := by
    intro i acc e1 e2 e4 ha
    have it : evIt (callF g (k + c.sz + 1)) (mkF g (k + c.sz + 1)) (mtF g) (.val (.v 1)) [e1, some (.ref s.length), some (.lst acc), some (.str (kindL i)), e4] S = .ok ⟨(dK c.keys).map (·.1), fun st' => st'[s.length]? = some (.dict true (dK c.keys))⟩ S := by
      have e : walkVal S (.ref s.length) = some ⟨(dK c.keys).map (·.1), fun st' => st'[s.length]? = some (.dict true (dK c.keys))⟩ := by
        show (match S[s.length]? with
          | some (O.lst l) => some (⟨l, fun (st' : St) => st'[s.length]? = some (O.lst l)⟩ : Walk)
          | some (O.dict true l) => some (⟨List.map (fun (p : W × W) => p.1) l, fun (st' : St) => st'[s.length]? = some (O.dict true l)⟩ : Walk)
          | _ => none) = _
        rw [eS]
      exact it_val (by simp) e
    have ek : (dK c.keys).map (·.1) = c.keys.map Ask.W := by unfold dK; rw [List.map_map]; rfl
    have lc := lcL_map (chk := fun (st' : St) => st'[s.length]? = some (O.dict true (dK c.keys))) (tg := .one 4) (c := evE (callF g (k + c.sz + 1)) (mkF g (k + c.sz + 1)) (mtF g) (.op .eq (.ix (.v 4) (.k (.int 0))) (.v 3)))
      (e := evE (callF g (k + c.sz + 1)) (mkF g (k + c.sz + 1)) (mtF g) (.v 4)) (env := [e1, some (.ref s.length), some (.lst acc), some (.str (kindL i)), e4]) (s := S) (p := fun w => match w with
        | W.tup (W.str x :: _) => decide (x = kindL i)
        | _ => false) (f := fun w => w) eS ((dK c.keys).map (·.1)) [] (by rw [List.length_map, dK_len]; show 0 + c.keys.length ≤ 16777216; omega) (fun x hx => by
        rw [ek] at hx
        obtain ⟨a, _, rfl⟩ := List.mem_map.mp hx
        refine ⟨_, rfl, ?_, fun _ => ?_⟩
        · cases a <;> simp [Ask.W]
        · simp)
    have ef : (((dK c.keys).map (·.1)).filter fun w => match w with
        | W.tup (W.str x :: _) => decide (x = kindL i)
        | _ => false) = (c.keys.filter (kindP i)).map Ask.W := by
      rw [ek, List.filter_map]
      congr 1
      refine List.filter_congr fun a _ => ?_
      match i with
      | 0 => cases a <;> simp [Ask.W, kindL, kindP, isBack]
      | 1 => cases a <;> simp [Ask.W, kindL, kindP, isOn]
      | 2 => cases a <;> simp [Ask.W, kindL, kindP, isAt]
    rw [ef, List.map_id', List.nil_append] at lc
    have so := ask_srt i key_ok (by omega)
    have st : biW true .sorted [.lst ((c.keys.filter (kindP i)).map Ask.W)] S = .ok (.lst (srtA (kindP i) c.keys)) S := by
      show (if srtOk ((c.keys.filter (kindP i)).map Ask.W) = true then newL true (srt ((c.keys.filter (kindP i)).map Ask.W)) S else .bad) = _
      rw [if_pos so]; rfl
    have ad : opAdd S (.lst acc) (.lst (srtA (kindP i) c.keys)) = .ok (.lst (acc ++ srtA (kindP i) c.keys)) S := by
      have := srtA_len (kindP i) c.keys
      show (if acc.length + (srtA (kindP i) c.keys).length ≤ line then R.ok (W.lst (acc ++ srtA (kindP i) c.keys)) S else .bad) = _
      exact if_pos (by show _ ≤ 16777216; omega)
    have lv : evE (callF g (k + c.sz + 1)) (mkF g (k + c.sz + 1)) (mtF g) (.lc true (.one 4) (.val (.v 1)) (.op .eq (.ix (.v 4) (.k (.int 0))) (.v 3)) (.v 4)) [e1, some (.ref s.length), some (.lst acc), some (.str (kindL i)), e4] S = .ok (.lst ((c.keys.filter (kindP i)).map Ask.W)) S := by
      rw [r_lc, it, R.bind_ok]
      show (lcL _ _ _ _ _ _ _ _).bind _ = _
      rw [lc]; rfl
    refine ⟨e4, ?_⟩
    have b : lpB (at_ 3 (CaskedBy iC)) = .cons (.set 2 (.op .add (.v 2) (.bi true .sorted (.cons (.lc true (.one 4) (.val (.v 1)) (.op .eq (.ix (.v 4) (.k (.int 0))) (.v 3)) (.v 4)) .nil)))) .nil := rfl
    rw [b]
    generalize E.lc true (.one 4) (.val (.v 1)) (.op .eq (.ix (.v 4) (.k (.int 0))) (.v 3)) (.v 4) = LC at *
    simp [lv, st, ad]
  have one : ∀ (i : Fin 3) (l : List W) (acc : List W) (x e4 : Option W), acc.length ≤ 1000000 → ∃ e4', forL (fun _ => True) (.one 3) (evSs (callF g (k + c.sz + 1)) (mkF g (k + c.sz + 1)) (mtF g) g.xf g.xfl (lpB (at_ 3 (CaskedBy iC)))) (.str (kindL i) :: l) [some c.W, some (.ref s.length), some (.lst acc), x, e4] S
      = forL (fun _ => True) (.one 3) (evSs (callF g (k + c.sz + 1)) (mkF g (k + c.sz + 1)) (mtF g) g.xf g.xfl (lpB (at_ 3 (CaskedBy iC)))) l [some c.W, some (.ref s.length), some (.lst (acc ++ srtA (kindP i) c.keys)), some (.str (kindL i)), e4'] S := by
    intro i l acc x e4 ha
    obtain ⟨e4', w1⟩ := walk i acc (some c.W) none e4 ha
    refine ⟨e4', ?_⟩
    rw [forL_cons trivial rfl]
    show (match evSs (callF g (k + c.sz + 1)) (mkF g (k + c.sz + 1)) (mtF g) g.xf g.xfl (lpB (at_ 3 (CaskedBy iC))) [some c.W, some (.ref s.length), some (.lst acc), some (.str (kindL i)), e4] S with
      | .nx e2 s2 => forL (fun _ => True) (.one 3) (evSs (callF g (k + c.sz + 1)) (mkF g (k + c.sz + 1)) (mtF g) g.xf g.xfl (lpB (at_ 3 (CaskedBy iC)))) l e2 s2
      | .ct e2 s2 => forL (fun _ => True) (.one 3) (evSs (callF g (k + c.sz + 1)) (mkF g (k + c.sz + 1)) (mtF g) g.xf g.xfl (lpB (at_ 3 (CaskedBy iC)))) l e2 s2
      | .brk e2 s2 => .nx e2 s2
      | r => r) = _
    rw [w1]
  obtain ⟨x1, f1⟩ := one 0 [.str (kindL 1), .str (kindL 2)] [hereW] none none (by decide)
  obtain ⟨x2, f2⟩ := one 1 [.str (kindL 2)] ([hereW] ++ srtA isBack c.keys) (some (.str (kindL 0))) x1 (by have := srtA_len isBack c.keys; simp; omega)
  obtain ⟨x3, f3⟩ := one 2 [] ([hereW] ++ srtA isBack c.keys ++ srtA isOn c.keys) (some (.str (kindL 1))) x2 (by have := srtA_len isBack c.keys; have := srtA_len isOn c.keys; simp; omega)
  have loop : forL (fun _ => True) (.one 3) (evSs (callF g (k + c.sz + 1)) (mkF g (k + c.sz + 1)) (mtF g) g.xf g.xfl (lpB (at_ 3 (CaskedBy iC)))) [.str (kindL 0), .str (kindL 1), .str (kindL 2)] [some c.W, some (.ref s.length), some (.lst [hereW]), none, none] S
      = .nx [some c.W, some (.ref s.length), some (.lst ([hereW] ++ srtA isBack c.keys ++ srtA isOn c.keys ++ srtA isAt c.keys)), some (.str (kindL 2)), x3] S := by
    rw [f1]
    show forL _ _ _ _ [some c.W, some (.ref s.length), some (.lst ([hereW] ++ srtA isBack c.keys)), some (.str (kindL 0)), x1] S = _
    rw [f2]
    show forL _ _ _ _ [some c.W, some (.ref s.length), some (.lst ([hereW] ++ srtA isBack c.keys ++ srtA isOn c.keys)), some (.str (kindL 1)), x2] S = _
    rw [f3, forL_nil, if_pos trivial]
    rfl
  have b0 : CaskedBy iC = .cons (.set 1 (.dct true (.nil))) (.cons (.ex (.call iC (.cons (.v 0) (.cons (.v 1) .nil)) [])) (.cons (.set 2 (.lst true (.cons (.k (.tup [.str [104, 101, 114, 101]])) .nil))) (.cons (.for_ (.one 3) (.val (.tup (.cons (.k (.str [98, 97, 99, 107])) (.cons (.k (.str [111, 110])) (.cons (.k (.str [97, 116])) .nil))))) (lpB (at_ 3 (CaskedBy iC)))) (.cons (.ret (.v 2)) .nil)))) := rfl
  have run : evSs (callF g (k + c.sz + 1)) (mkF g (k + c.sz + 1)) (mtF g) g.xf g.xfl (CaskedBy iC) [some c.W, none, none, none, none] s = .ret (.lst c.asked) S := by
    rw [b0]
    have q1 : evE (callF g (k + c.sz + 1)) (mkF g (k + c.sz + 1)) (mtF g) (.dct true (.nil)) [some c.W, none, none, none, none] s = .ok (.ref s.length) (s ++ [.dict true []]) := by simp [newD]
    rw [set_step q1]
    have q2 : evS (callF g (k + c.sz + 1)) (mkF g (k + c.sz + 1)) (mtF g) g.xf g.xfl (.ex (.call iC (.cons (.v 0) (.cons (.v 1) .nil)) [])) [some c.W, some (.ref s.length), none, none, none] (s ++ [.dict true []]) = .nx [some c.W, some (.ref s.length), none, none, none] S := by simp [c1]
    show evSs _ _ _ _ _ _ [some c.W, some (.ref s.length), none, none, none] (s ++ [.dict true []]) = _
    rw [ss_step q2]
    have q3 : evE (callF g (k + c.sz + 1)) (mkF g (k + c.sz + 1)) (mtF g) (.lst true (.cons (.k (.tup [.str [104, 101, 114, 101]])) .nil)) [some c.W, some (.ref s.length), none, none, none] S = .ok (.lst [hereW]) S := by simp [hereW]
    rw [set_step q3]
    show evSs _ _ _ _ _ _ [some c.W, some (.ref s.length), some (.lst [hereW]), none, none] S = _
    have q4 : evIt (callF g (k + c.sz + 1)) (mkF g (k + c.sz + 1)) (mtF g) (.val (.tup (.cons (.k (.str [98, 97, 99, 107])) (.cons (.k (.str [111, 110])) (.cons (.k (.str [97, 116])) .nil))))) [some c.W, some (.ref s.length), some (.lst [hereW]), none, none] S = .ok ⟨[.str (kindL 0), .str (kindL 1), .str (kindL 2)], fun _ => True⟩ S := it_val (by simp [kindL]) walk_tup
    rw [for_step q4 loop]
    simp [Cd.asked]
  show fin .pure s (evSs _ _ _ _ _ (CaskedBy iC) [some c.W, none, none, none, none] s) = _
  rw [run]
  refine fin_dat (d := 10) (by rw [← hS]; simp) ?_
  rw [dat_lst]
  unfold Cd.asked
  rw [datL_cons, show dat 9 hereW = true by decide, Bool.true_and]
  have all : ∀ i, datL 9 (srtA (kindP i) c.keys) = true := fun i => by
    have mem : ∀ w ∈ srtA (kindP i) c.keys, dat 9 w = true := fun w hw => by
      have hw := (srt_perm _).mem_iff.mp hw
      obtain ⟨a, ha, rfl⟩ := List.mem_map.mp hw
      exact ask_dat (key_ok a (List.mem_filter.mp ha).1)
    have z := datL_map (f := fun w : W => w) (d := 9) mem
    rwa [List.map_id'] at z
  have app : ∀ a b : List W, datL 9 a = true → datL 9 b = true → datL 9 (a ++ b) = true := by
    intro a
    induction a with
    | nil => intro b _ h; exact h
    | cons x a ih =>
      intro b h1 h2
      rw [datL_cons, Bool.and_eq_true] at h1
      rw [List.cons_append, datL_cons, h1.1, ih b h1.2 h2]; rfl
  exact app _ _ (app _ _ (all 0) (all 1)) (all 2)
end
end Px

set_option linter.all false
set_option maxRecDepth 100000
set_option maxHeartbeats 0
/-! Px27: conditions and rules by a stream of digits (law side). -/
namespace Px
open PySem
def Cpick : Ss :=
  .cons (.ite (.op .eq (.ix (.v 0) (.k (.int 1))) (.k (.int 0))) (.cons (.set 2 (.op .mod (.ix (.v 0) (.k (.int 0))) (.v 1))) <|
  .cons (.setI (.v 0) (.k (.int 0)) (.op .fdiv (.ix (.v 0) (.k (.int 0))) (.v 1))) <|
  .cons (.ret (.v 2)) .nil) (.nil)) <|
  .cons (.setI (.v 0) (.k (.int 0)) (.op .mod (.op .add (.op .mul (.op .mod (.ix (.v 0) (.k (.int 0))) (.k (.int 2147483647))) (.k (.int 48271))) (.k (.int 1013))) (.k (.int 2147483629)))) <|
  .cons (.ret (.op .mod (.op .fdiv (.op .mod (.op .mul (.ix (.v 0) (.k (.int 0))) (.k (.int 69621))) (.k (.int 2147483587))) (.k (.int 11))) (.v 1))) .nil
def CtermG (iP iL : Nat) : Ss :=
  .cons (.set 2 (.call iP (.cons (.v 0) (.cons (.k (.int 10)) .nil)) [])) <|
  .cons (.ite (.op .eq (.v 2) (.k (.int 0))) (.cons (.ret (.tup (.cons (.k (.str [110, 117, 109])) (.cons (.call iL (.cons (.call iP (.cons (.v 0) (.cons (.k (.int 9)) .nil)) []) (.cons (.op .add (.k (.int 1)) (.call iP (.cons (.v 0) (.cons (.k (.int 3)) .nil)) [])) .nil)) []) .nil)))) .nil) (.nil)) <|
  .cons (.ite (.and_ (.op .eq (.v 2) (.k (.int 8))) (.op .ne (.v 1) (.lst true (.nil)))) (.cons (.ret (.tup (.cons (.k (.str [97, 116])) (.cons (.ix (.v 1) (.call iP (.cons (.v 0) (.cons (.bi true .len (.cons (.v 1) .nil)) .nil)) [])) .nil)))) .nil) (.nil)) <|
  .cons (.ite (.op .in_ (.v 2) (.lst true (.cons (.k (.int 1)) (.cons (.k (.int 2)) (.cons (.k (.int 8)) (.cons (.k (.int 9)) .nil)))))) (.cons (.ret (.tup (.cons (.k (.str [104, 101, 114, 101])) .nil))) .nil) (.nil)) <|
  .cons (.set 3 (.op .add (.k (.int 1)) (.call iP (.cons (.v 0) (.cons (.k (.int 3)) .nil)) []))) <|
  .cons (.ite (.op .eq (.v 3) (.k (.int 3))) (.cons (.set 3 (.op .add (.k (.int 1)) (.call iP (.cons (.v 0) (.cons (.k (.int 9)) .nil)) []))) .nil) (.nil)) <|
  .cons (.ret (.tup (.cons (.ix (.lst true (.cons (.k (.str [98, 97, 99, 107])) (.cons (.k (.str [98, 97, 99, 107])) (.cons (.k (.str [111, 110])) (.cons (.k (.str [97, 103, 111])) (.cons (.k (.str [117, 110, 116, 105, 108])) .nil)))))) (.op .sub (.v 2) (.k (.int 3)))) (.cons (.v 3) .nil)))) .nil
def CsumG (iP iL iT : Nat) : Ss :=
  .cons (.set 2 (.call iP (.cons (.v 0) (.cons (.k (.int 6)) .nil)) [])) <|
  .cons (.set 3 (.call iT (.cons (.v 0) (.cons (.v 1) .nil)) [])) <|
  .cons (.ite (.op .eq (.v 2) (.k (.int 3))) (.cons (.ret (.tup (.cons (.k (.str [116, 105, 109, 101, 115])) (.cons (.call iL (.cons (.call iP (.cons (.v 0) (.cons (.k (.int 4)) .nil)) []) (.cons (.op .add (.k (.int 1)) (.call iP (.cons (.v 0) (.cons (.k (.int 3)) .nil)) [])) .nil)) []) (.cons (.v 3) .nil))))) .nil) (.nil)) <|
  .cons (.ite (.op .gt (.v 2) (.k (.int 3))) (.cons (.ret (.v 3)) .nil) (.nil)) <|
  .cons (.set 4 (.call iT (.cons (.v 0) (.cons (.v 1) .nil)) [])) <|
  .cons (.ite (.op .eq (.v 2) (.k (.int 0))) (.cons (.ret (.tup (.cons (.k (.str [97, 98, 115])) (.cons (.tup (.cons (.k (.str [45])) (.cons (.v 3) (.cons (.v 4) .nil)))) .nil)))) .nil) (.nil)) <|
  .cons (.ret (.tup (.cons (.ix (.lst true (.cons (.k (.str [43])) (.cons (.k (.str [45])) .nil))) (.op .sub (.v 2) (.k (.int 1)))) (.cons (.v 3) (.cons (.v 4) .nil))))) .nil
def CcmpG (iP iL iS : Nat) : Ss :=
  .cons (.set 2 (.ix (.lst true (.cons (.k (.str [60])) (.cons (.k (.str [60])) (.cons (.k (.str [61])) .nil)))) (.call iP (.cons (.v 0) (.cons (.k (.int 3)) .nil)) []))) <|
  .cons (.set 3 (.call iS (.cons (.v 0) (.cons (.v 1) .nil)) [])) <|
  .cons (.ite (.op .eq (.call iP (.cons (.v 0) (.cons (.k (.int 2)) .nil)) []) (.k (.int 0))) (.cons (.ret (.tup (.cons (.v 2) (.cons (.v 3) (.cons (.tup (.cons (.k (.str [110, 117, 109])) (.cons (.call iL (.cons (.call iP (.cons (.v 0) (.cons (.k (.int 6)) .nil)) []) (.cons (.op .add (.k (.int 1)) (.call iP (.cons (.v 0) (.cons (.k (.int 2)) .nil)) [])) .nil)) []) .nil))) .nil))))) .nil) (.nil)) <|
  .cons (.ret (.tup (.cons (.v 2) (.cons (.v 3) (.cons (.call iS (.cons (.v 0) (.cons (.v 1) .nil)) []) .nil))))) .nil
def CcondG (iP iM : Nat) : Ss :=
  .cons (.set 2 (.call iP (.cons (.v 0) (.cons (.k (.int 6)) .nil)) [])) <|
  .cons (.set 3 (.call iM (.cons (.v 0) (.cons (.v 1) .nil)) [])) <|
  .cons (.ite (.op .lt (.v 2) (.k (.int 3))) (.cons (.ret (.v 3)) .nil) (.nil)) <|
  .cons (.ite (.op .eq (.v 2) (.k (.int 3))) (.cons (.ret (.tup (.cons (.k (.str [110, 111, 116])) (.cons (.v 3) .nil)))) .nil) (.nil)) <|
  .cons (.ret (.tup (.cons (.ix (.lst true (.cons (.k (.str [97, 110, 100])) (.cons (.k (.str [111, 114])) .nil))) (.op .sub (.v 2) (.k (.int 4)))) (.cons (.v 3) (.cons (.call iM (.cons (.v 0) (.cons (.v 1) .nil)) []) .nil))))) .nil
def CrulesG (iC iD : Nat) : Ss :=
  .cons (.set 4 (.lst true (.cons (.k (.str [97])) (.cons (.k (.str [98, 98])) (.cons (.k (.str [97, 98])) (.cons (.k (.str [98, 97])) (.cons (.k (.str [99])) (.cons (.k (.str [98])) (.cons (.k (.str [97, 97])) (.cons (.k (.str [100])) (.cons (.k (.str [101])) (.cons (.k (.str [102])) (.cons (.k (.str [103])) (.cons (.k (.str [104])) .nil)))))))))))))) <|
  .cons (.set 5 (.lst false (.nil))) <|
  .cons (.for_ (.one 6) (.range (.cons (.v 2) .nil)) (.cons (.set 7 (.lst false (.cons (.call iC (.cons (.v 0) (.cons (.op .add (.v 1) (.v 6)) .nil)) []) (.cons (.op .mod (.op .fdiv (.call iC (.cons (.v 0) (.cons (.k (.int 0)) .nil)) []) (.k (.int 7))) (.k (.int 2))) .nil)))) <|
  .cons (.ex (.meth true (.v 5) .append (.cons (.tup (.cons (.ix (.v 4) (.v 6)) (.cons (.call iD (.cons (.v 7) (.cons (.v 3) .nil)) []) .nil))) .nil))) .nil)) <|
  .cons (.ret (.v 5)) .nil
/-! ### the stream -/
def pkV (c m n : Int) : Int := if m = 0 then c.fmod n else ((((c.fmod 2147483647 * 48271 + 1013).fmod 2147483629) * 69621).fmod 2147483587 |>.fdiv 11).fmod n
def pkS (c m n : Int) : Int := if m = 0 then c.fdiv n else (c.fmod 2147483647 * 48271 + 1013).fmod 2147483629
theorem pkV_bd {c m n : Int} (h : 0 < n) : 0 ≤ pkV c m n ∧ pkV c m n < n := by
  unfold pkV
  split
  · exact fmod_bd _ h
  · exact fmod_bd _ h
def stS (s : St) (q : Nat) (c m : Int) : St := s.set q (.lst [.int c, .int m])
theorem stS_at {s : St} {q : Nat} {c m : Int} (h : q < s.length) : (stS s q c m)[q]? = some (.lst [.int c, .int m]) := List.getElem?_set_self h
theorem stS_set {s : St} {q : Nat} {c m : Int} {o : O} : (stS s q c m).set q o = s.set q o := List.set_set ..
theorem stS_len {s : St} {q : Nat} {c m : Int} : (stS s q c m).length = s.length := List.length_set
theorem stS_of {s : St} {q : Nat} {c m : Int} (h : s[q]? = some (.lst [.int c, .int m])) : stS s q c m = s := by
  refine List.ext_getElem? fun i => ?_
  unfold stS
  by_cases hi : q = i
  · subst hi; rw [set_at h, h]
  · rw [List.getElem?_set_ne hi]
def PickSp (g : Gd) (i : Nat) : Prop := ∀ (k : Nat) (c m n : Int) (s : St) (q : Nat), 0 < n → n ≤ (10 ^ 60 : Nat) → q < s.length → callF g (k + 1) i [.ref q, .int n] (stS s q c m) = .ok (.int (pkV c m n)) (stS s q (pkS c m n) m)
section
variable {g : Gd} {iP iL iT iS iM iD iC iR : Nat}
theorem ixRef {s : St} {q : Nat} {l : List W} {i : Int} (h : s[q]? = some (.lst l)) : ixW s (.ref q) (.int i) = okO s (ixL l i) := by
  show (match listOf s (.ref q) with
    | some l => okO s (ixL l i)
    | none => ixD s (.ref q) (.int i)) = _
  show (match (match s[q]? with
    | some (O.lst l) => some l
    | _ => none) with
    | some l => okO s (ixL l i)
    | none => ixD s (.ref q) (.int i)) = _
  rw [h]
theorem setI_ref {s : St} {q : Nat} {l : List W} {i : Int} {j : Nat} {w : W} (h : s[q]? = some (.lst l)) (hj : L2.ixN l.length i = some j) : setIW s (.ref q) (.int i) w = some (s.set q (.lst (l.set j w))) := by
  show (match s[q]? with
    | some (O.lst l) => (L2.ixN l.length i).map fun j => s.set q (.lst (l.set j w))
    | some (O.dict t l) => if keyOk t (.int i) = true ∧ l.length < line then some (s.set q (.dict t (putD l (.int i) w))) else none
    | _ => none) = _
  rw [h]
  show (L2.ixN l.length i).map _ = _
  rw [hj]; rfl
theorem pick_sp (h : g.fns[iP]? = some ⟨2, 3, Cpick, .raw⟩) : PickSp g iP := by
  intro k c m n s q h0 h1 hq
  rw [call_eq h rfl]
  have e := stS_at (c := c) (m := m) hq
  generalize hS : stS s q c m = S at e
  have i0 : ixW S (.ref q) (.int 0) = .ok (.int c) S := by rw [ixRef e]; rfl
  have i1 : ixW S (.ref q) (.int 1) = .ok (.int m) S := by rw [ixRef e]; rfl
  have w0 : ∀ x, setIW S (.ref q) (.int 0) (.int x) = some (stS s q x m) := fun x => by
    rw [setI_ref e (j := 0) (by rfl), ← hS, stS_set]; rfl
  have hn : n ≠ 0 := by omega
  by_cases hm : m = 0
  · have hm' : decide (m = 0) = true := decide_eq_true hm
    have v1 : pkV c m n = c.fmod n := if_pos hm
    have v2 : pkS c m n = c.fdiv n := if_pos hm
    rw [v1, v2]
    simp [Cpick, i0, i1, hm, w0, modS h0, divS h0 h1]
  · have v1 : pkV c m n = (((c.fmod 2147483647 * 48271 + 1013).fmod 2147483629 * 69621).fmod 2147483587 |>.fdiv 11).fmod n := if_neg hm
    have v2 : pkS c m n = (c.fmod 2147483647 * 48271 + 1013).fmod 2147483629 := if_neg hm
    rw [v1, v2]
    have b1 := fmod_bd c (b := 2147483647) (by decide)
    have b2 := fmod_bd (c.fmod 2147483647 * 48271 + 1013) (b := 2147483629) (by decide)
    have m1 : opMul S (.int (c.fmod 2147483647)) (.int 48271) = .ok (.int (c.fmod 2147483647 * 48271)) S := mulS (by omega) (by omega) (by decide) (by decide)
    have e2 := stS_at (s := s) (q := q) (c := (c.fmod 2147483647 * 48271 + 1013).fmod 2147483629) (m := m) hq
    generalize hy : (c.fmod 2147483647 * 48271 + 1013).fmod 2147483629 = y at *
    have m2 : opMul (stS s q y m) (.int y) (.int 69621) = .ok (.int (y * 69621)) (stS s q y m) := mulS (by omega) (by omega) (by decide) (by decide)
    have j0 : ixW (stS s q y m) (.ref q) (.int 0) = .ok (.int y) (stS s q y m) := by rw [ixRef e2]; rfl
    have d1 : opDiv (stS s q y m) (.int ((y * 69621).fmod 2147483587)) (.int 11) = .ok (.int ((y * 69621).fmod 2147483587 |>.fdiv 11)) (stS s q y m) := divS (by decide) (by decide)
    have o1 : opMod S (.int c) (.int 2147483647) = .ok (.int (c.fmod 2147483647)) S := modS (by decide)
    have o2 : opMod S (.int (c.fmod 2147483647 * 48271 + 1013)) (.int 2147483629) = .ok (.int y) S := by rw [← hy]; exact modS (by decide)
    have o3 : opMod (stS s q y m) (.int (y * 69621)) (.int 2147483587) = .ok (.int ((y * 69621).fmod 2147483587)) (stS s q y m) := modS (by decide)
    have o4 : opMod (stS s q y m) (.int ((y * 69621).fmod 2147483587 |>.fdiv 11)) (.int n) = .ok (.int (((y * 69621).fmod 2147483587 |>.fdiv 11).fmod n)) (stS s q y m) := modS h0
    simp [Cpick, i0, i1, hm, w0, o1, m1, o2, j0, m2, o3, d1, o4]
/-! ### terms and conditions -/
def Tm.gd (ws : List (List Nat)) : Tm → Prop
  | .num t b => t ≤ 8 ∧ 0 < b ∧ b ≤ 3 ∧ Nat.gcd t b = 1
  | .here => True
  | .at_ w => w ∈ ws
  | .far _ n => 1 ≤ n ∧ n ≤ 9
  | .sum _ a b => a.gd ws ∧ b.gd ws
  | .abs a => a.gd ws
  | .times t b a => t ≤ 3 ∧ 0 < b ∧ b ≤ 3 ∧ Nat.gcd t b = 1 ∧ a.gd ws
def Cd.gd (ws : List (List Nat)) : Cd → Prop
  | .cmp _ a b => a.gd ws ∧ b.gd ws
  | .neg a => a.gd ws
  | .and_ a b => a.gd ws ∧ b.gd ws
  | .or_ a b => a.gd ws ∧ b.gd ws
/-- one of the masts, letters all -/
def WsOk (ws : List (List Nat)) : Prop := ws.length ≤ 10 ∧ ∀ w ∈ ws, ∀ x ∈ w, x < 128
theorem low_nat {t b : Int} (h0 : 0 ≤ t) (hb : 0 < b) : ∃ p q : Nat, lp_ t b = p ∧ lq_ t b = q ∧ (p : Int) ≤ t ∧ (q : Int) ≤ b ∧ 0 < q ∧ Nat.gcd p q = 1 := by
  have n := Int.ne_of_gt hb
  have h1 := lq_pos (t := t) n
  have h2 := lp_abs (t := t) n
  have h3 := lq_abs (t := t) n
  have h4 := low_cross (t := t) n
  have h5 := low_gcd (t := t) n
  have h6 : 0 ≤ lp_ t b := by
    by_cases hh : 0 ≤ lp_ t b
    · exact hh
    · have : lp_ t b * b < 0 := Int.mul_neg_of_neg_of_pos (by omega) hb
      have : 0 ≤ t * lq_ t b := Int.mul_nonneg h0 (by omega)
      omega
  refine ⟨(lp_ t b).toNat, (lq_ t b).toNat, by omega, by omega, by omega, by omega, by omega, ?_⟩
  have e1 : lp_ t b = ((lp_ t b).toNat : Int) := by omega
  have e2 : lq_ t b = ((lq_ t b).toNat : Int) := by omega
  rw [e1, e2] at h5
  exact h5
def TermGSp (g : Gd) (i d : Nat) (ws : List (List Nat)) (z : Nat) : Prop := ∀ (k : Nat) (c m : Int) (s : St) (q : Nat), q < s.length → ∃ (t : Tm) (c' : Int), t.gd ws ∧ t.sz ≤ z ∧ callF g (k + d) i [.ref q, .lst (ws.map .str)] (stS s q c m) = .ok t.W (stS s q c' m)
theorem eqv_nil (ws : List (List Nat)) : eqvL (ws.map W.str) [] = decide (ws = []) := by
  cases ws <;> simp [eqvL]
theorem termG_sp (h : g.fns[iT]? = some ⟨2, 4, CtermG iP iL, .raw⟩) (P : PickSp g iP) (Lo : Low2Sp g iL) {ws : List (List Nat)} (hw : WsOk ws) : TermGSp g iT 2 ws 1 := by
  intro k c m s q hq
  have p10 := P k c m 10 s q (by decide) (by decide) hq
  have bd := pkV_bd (c := c) (m := m) (n := 10) (by decide)
  generalize pkV c m 10 = v at p10 bd
  generalize pkS c m 10 = c1 at p10
  have cs : v = 0 ∨ v = 1 ∨ v = 2 ∨ v = 3 ∨ v = 4 ∨ v = 5 ∨ v = 6 ∨ v = 7 ∨ v = 8 ∨ v = 9 := by omega
  have dws : datL 59 (ws.map W.str) = true := datL_map fun w hm => dat_str (hw.2 w hm)
  have ne : ∀ S : St, eqR S (.lst (ws.map W.str)) (.lst []) = some (decide (ws = [])) := fun S => by rw [eqR_lst dws (by decide), eqv_nil]
  have in4 : ∀ (S : St) (x : Int), inR S (.int x) (.lst [.int 1, .int 2, .int 8, .int 9]) = some (decide (x = 1 ∨ x = 2 ∨ x = 8 ∨ x = 9)) := fun S x => by
    show (if dat 60 (.int x) = true ∧ datL 59 [.int 1, .int 2, .int 8, .int 9] = true then some (([.int 1, .int 2, .int 8, .int 9] : List W).any fun z => eqv z (.int x)) else none) = _
    rw [if_pos ⟨by simp [dat], by decide⟩]
    congr 1
    simp only [List.any_cons, List.any_nil, eqv, Bool.or_false, Bool.decide_or]
    rw [show ((1 : Int) == x) = decide (x = 1) by by_cases hx : x = 1 <;> simp [hx, Ne.symm] <;> omega, show ((2 : Int) == x) = decide (x = 2) by by_cases hx : x = 2 <;> simp [hx] <;> omega, show ((8 : Int) == x) = decide (x = 8) by by_cases hx : x = 8 <;> simp [hx] <;> omega, show ((9 : Int) == x) = decide (x = 9) by by_cases hx : x = 9 <;> simp [hx] <;> omega]
  have far : ∀ (j : Fin 5) (r : Tm → Prop), v = (3 : Int) + j.val → ∃ (t : Tm) (c' : Int), t.gd ws ∧ t.sz ≤ 1 ∧ callF g (k + 2) iT [.ref q, .lst (ws.map .str)] (stS s q c m) = .ok t.W (stS s q c' m) := by
    intro j _ hv
    have p3 := P k c1 m 3 s q (by decide) (by decide) hq
    have b3 := pkV_bd (c := c1) (m := m) (n := 3) (by decide)
    generalize pkV c1 m 3 = u at p3 b3
    generalize pkS c1 m 3 = c2 at p3
    have fin : ∀ (n : Nat) (c3 : Int), ∃ t : Tm, (1 ≤ n → n ≤ 9 → t.gd ws) ∧ t.sz ≤ 1 ∧ W.tup [.str ([[98, 97, 99, 107], [98, 97, 99, 107], [111, 110], [97, 103, 111], [117, 110, 116, 105, 108]].getD j.val []), .int n] = t.W := fun n _ => by
      match j with
      | 0 => exact ⟨.far 0 n, fun a b => ⟨a, b⟩, by simp [Tm.sz], rfl⟩
      | 1 => exact ⟨.far 0 n, fun a b => ⟨a, b⟩, by simp [Tm.sz], rfl⟩
      | 2 => exact ⟨.far 1 n, fun a b => ⟨a, b⟩, by simp [Tm.sz], rfl⟩
      | 3 => exact ⟨.far 2 n, fun a b => ⟨a, b⟩, by simp [Tm.sz], rfl⟩
      | 4 => exact ⟨.far 3 n, fun a b => ⟨a, b⟩, by simp [Tm.sz], rfl⟩
    have ix5 : ∀ S : St, ixW S (.lst [.str [98, 97, 99, 107], .str [98, 97, 99, 107], .str [111, 110], .str [97, 103, 111], .str [117, 110, 116, 105, 108]]) (.int (v - 3)) = .ok (.str ([[98, 97, 99, 107], [98, 97, 99, 107], [111, 110], [97, 103, 111], [117, 110, 116, 105, 108]].getD j.val [])) S := fun S => by
      have e : v - 3 = (j.val : Int) := by omega
      rw [e]
      match j with
      | 0 => rfl
      | 1 => rfl
      | 2 => rfl
      | 3 => rfl
      | 4 => rfl
    have h0 : ¬ v = 0 := by omega
    have h8 : ¬ v = 8 := by omega
    have hj := j.isLt
    have h1 : ¬ v = 1 := by omega
    have h2 : ¬ v = 2 := by omega
    have h9 : ¬ v = 9 := by omega
    by_cases hu : 1 + u = 3
    · have p9 := P k c2 m 9 s q (by decide) (by decide) hq
      have b9 := pkV_bd (c := c2) (m := m) (n := 9) (by decide)
      generalize pkV c2 m 9 = x at p9 b9
      generalize pkS c2 m 9 = c3 at p9
      obtain ⟨t, t1, t2, t3⟩ := fin (1 + x).toNat c3
      refine ⟨t, c3, t1 (by omega) (by omega), t2, ?_⟩
      rw [← t3, call_eq h rfl]
      have ex : ((1 + x).toNat : Int) = 1 + x := by omega
      rw [ex]
      simp [CtermG, p10, h0, h8, in4, h1, h2, h9, p3, hu, p9, ix5]
    · obtain ⟨t, t1, t2, t3⟩ := fin (1 + u).toNat c2
      refine ⟨t, c2, t1 (by omega) (by omega), t2, ?_⟩
      rw [← t3, call_eq h rfl]
      have ex : ((1 + u).toNat : Int) = 1 + u := by omega
      rw [ex]
      simp [CtermG, p10, h0, h8, in4, h1, h2, h9, p3, hu, ix5]
  rcases cs with e | e | e | e | e | e | e | e | e | e
  · subst e
    have p9 := P k c1 m 9 s q (by decide) (by decide) hq
    have b9 := pkV_bd (c := c1) (m := m) (n := 9) (by decide)
    generalize pkV c1 m 9 = a at p9 b9
    generalize pkS c1 m 9 = c2 at p9
    have p3 := P k c2 m 3 s q (by decide) (by decide) hq
    have b3 := pkV_bd (c := c2) (m := m) (n := 3) (by decide)
    generalize pkV c2 m 3 = b at p3 b3
    generalize pkS c2 m 3 = c3 at p3
    have lo := Lo k a (1 + b) (stS s q c3 m) (by omega) (bd9000 (by omega) (by omega))
    obtain ⟨x, y, e1, e2, l1, l2, l3, l4⟩ := low_nat (t := a) (b := 1 + b) b9.1 (by omega)
    refine ⟨.num x y, c3, ⟨by omega, l3, by omega, l4⟩, by simp [Tm.sz], ?_⟩
    rw [call_eq h rfl]
    rw [e1, e2] at lo
    simp [CtermG, p10, p9, p3, lo, Tm.W]
  · subst e; exact ⟨.here, c1, trivial, by simp [Tm.sz], by rw [call_eq h rfl]; simp [CtermG, p10, in4, Tm.W]⟩
  · subst e; exact ⟨.here, c1, trivial, by simp [Tm.sz], by rw [call_eq h rfl]; simp [CtermG, p10, in4, Tm.W]⟩
  · exact far 0 (fun _ => True) (by rw [e]; rfl)
  · exact far 1 (fun _ => True) (by rw [e]; rfl)
  · exact far 2 (fun _ => True) (by rw [e]; rfl)
  · exact far 3 (fun _ => True) (by rw [e]; rfl)
  · exact far 4 (fun _ => True) (by rw [e]; rfl)
  · subst e
    by_cases hn : ws = []
    · refine ⟨.here, c1, trivial, by simp [Tm.sz], ?_⟩
      subst hn
      have ne0 : ∀ S : St, eqR S (.lst []) (.lst []) = some true := fun S => by simpa using ne S
      rw [call_eq h rfl]
      simp [CtermG, p10, ne0, in4, Tm.W]
    · have hl : 0 < ws.length := List.length_pos_iff.mpr hn
      have pl := P k c1 m ws.length s q (by omega) (by have := hw.1; omega) hq
      have bl := pkV_bd (c := c1) (m := m) (n := ws.length) (by omega)
      generalize pkV c1 m ws.length = x at pl bl
      generalize pkS c1 m ws.length = c2 at pl
      have hx : x.toNat < ws.length := by omega
      refine ⟨.at_ ws[x.toNat], c2, List.getElem_mem hx, by simp [Tm.sz], ?_⟩
      have ix : ixW (stS s q c2 m) (.lst (ws.map W.str)) (.int x) = .ok (.str ws[x.toNat]) (stS s q c2 m) := ixG (by omega) (by rw [List.getElem?_map, List.getElem?_eq_getElem hx]; rfl)
      rw [call_eq h rfl]
      simp [CtermG, p10, ne, hn, pl, ix, Tm.W]
  · subst e; exact ⟨.here, c1, trivial, by simp [Tm.sz], by rw [call_eq h rfl]; simp [CtermG, p10, in4, Tm.W]⟩
theorem sumG_sp (h : g.fns[iS]? = some ⟨2, 5, CsumG iP iL iT, .raw⟩) (P : PickSp g iP) (Lo : Low2Sp g iL) {ws : List (List Nat)} (T : TermGSp g iT 2 ws 1) : TermGSp g iS 3 ws 4 := by
  intro k c m s q hq
  have p6 := P (k + 1) c m 6 s q (by decide) (by decide) hq
  have bd := pkV_bd (c := c) (m := m) (n := 6) (by decide)
  generalize pkV c m 6 = v at p6 bd
  generalize pkS c m 6 = c1 at p6
  obtain ⟨t1, c2, g1, z1, r1⟩ := T k c1 m s q hq
  by_cases h3 : v = 3
  · have p4 := P (k + 1) c2 m 4 s q (by decide) (by decide) hq
    have b4 := pkV_bd (c := c2) (m := m) (n := 4) (by decide)
    generalize pkV c2 m 4 = a at p4 b4
    generalize pkS c2 m 4 = c3 at p4
    have p3 := P (k + 1) c3 m 3 s q (by decide) (by decide) hq
    have b3 := pkV_bd (c := c3) (m := m) (n := 3) (by decide)
    generalize pkV c3 m 3 = b at p3 b3
    generalize pkS c3 m 3 = c4 at p3
    have lo := Lo (k + 1) a (1 + b) (stS s q c4 m) (by omega) (bd9000 (by omega) (by omega))
    obtain ⟨x, y, e1, e2, l1, l2, l3, l4⟩ := low_nat (t := a) (b := 1 + b) b4.1 (by omega)
    rw [e1, e2] at lo
    refine ⟨.times x y t1, c4, ⟨by omega, l3, by omega, l4, g1⟩, by simp only [Tm.sz]; omega, ?_⟩
    rw [call_eq h rfl]
    simp [CsumG, p6, r1, h3, p4, p3, lo, Tm.W]
  · by_cases h4 : 3 < v
    · refine ⟨t1, c2, g1, by omega, ?_⟩
      rw [call_eq h rfl]
      simp [CsumG, p6, r1, h3, h4]
    · obtain ⟨t2, c3, g2, z2, r2⟩ := T k c2 m s q hq
      by_cases h0 : v = 0
      · refine ⟨.abs (.sum true t1 t2), c3, ⟨g1, g2⟩, by simp only [Tm.sz]; omega, ?_⟩
        rw [call_eq h rfl]
        subst h0
        simp [CsumG, p6, r1, r2, Tm.W, sgnL]
      · have h12 : v = 1 ∨ v = 2 := by omega
        rcases h12 with e | e
        · subst e
          refine ⟨.sum false t1 t2, c3, ⟨g1, g2⟩, by simp only [Tm.sz]; omega, ?_⟩
          rw [call_eq h rfl]
          simp [CsumG, p6, r1, r2, Tm.W, sgnL]
        · subst e
          refine ⟨.sum true t1 t2, c3, ⟨g1, g2⟩, by simp only [Tm.sz]; omega, ?_⟩
          rw [call_eq h rfl]
          simp [CsumG, p6, r1, r2, Tm.W, sgnL]
def CondGSp (g : Gd) (i d : Nat) (ws : List (List Nat)) (z : Nat) : Prop := ∀ (k : Nat) (c m : Int) (s : St) (q : Nat), q < s.length → ∃ (t : Cd) (c' : Int), t.gd ws ∧ t.sz ≤ z ∧ callF g (k + d) i [.ref q, .lst (ws.map .str)] (stS s q c m) = .ok t.W (stS s q c' m)
theorem cmpG_sp (h : g.fns[iM]? = some ⟨2, 4, CcmpG iP iL iS, .raw⟩) (P : PickSp g iP) (Lo : Low2Sp g iL) {ws : List (List Nat)} (T : TermGSp g iS 3 ws 4) : CondGSp g iM 4 ws 9 := by
  intro k c m s q hq
  have p6 := P (k + 2) c m 3 s q (by decide) (by decide) hq
  have bd := pkV_bd (c := c) (m := m) (n := 3) (by decide)
  generalize pkV c m 3 = v at p6 bd
  generalize pkS c m 3 = c1 at p6
  obtain ⟨t1, c2, g1, z1, r1⟩ := T k c1 m s q hq
  have p2 := P (k + 2) c2 m 2 s q (by decide) (by decide) hq
  have b2 := pkV_bd (c := c2) (m := m) (n := 2) (by decide)
  generalize pkV c2 m 2 = u at p2 b2
  generalize pkS c2 m 2 = c3 at p2
  have ix3 : ∃ e : Bool, ∀ S : St, ixW S (.lst [.str [60], .str [60], .str [61]]) (.int v) = .ok (.str (cmpL e)) S := by
    have cs : v = 0 ∨ v = 1 ∨ v = 2 := by omega
    rcases cs with e | e | e <;> subst e
    · exact ⟨false, fun S => rfl⟩
    · exact ⟨false, fun S => rfl⟩
    · exact ⟨true, fun S => rfl⟩
  obtain ⟨e, ix3⟩ := ix3
  by_cases hu : u = 0
  · have p7 := P (k + 2) c3 m 6 s q (by decide) (by decide) hq
    have b7 := pkV_bd (c := c3) (m := m) (n := 6) (by decide)
    generalize pkV c3 m 6 = a at p7 b7
    generalize pkS c3 m 6 = c4 at p7
    have p3 := P (k + 2) c4 m 2 s q (by decide) (by decide) hq
    have b3 := pkV_bd (c := c4) (m := m) (n := 2) (by decide)
    generalize pkV c4 m 2 = b at p3 b3
    generalize pkS c4 m 2 = c5 at p3
    have lo := Lo (k + 2) a (1 + b) (stS s q c5 m) (by omega) (bd9000 (by omega) (by omega))
    obtain ⟨x, y, e1, e2, l1, l2, l3, l4⟩ := low_nat (t := a) (b := 1 + b) b7.1 (by omega)
    rw [e1, e2] at lo
    refine ⟨.cmp e t1 (.num x y), c5, ⟨g1, by omega, l3, by omega, l4⟩, by simp only [Cd.sz, Tm.sz]; omega, ?_⟩
    rw [call_eq h rfl]
    simp [CcmpG, p6, ix3, r1, p2, hu, p7, p3, lo, Cd.W, Tm.W]
  · obtain ⟨t2, c4, g2, z2, r2⟩ := T k c3 m s q hq
    refine ⟨.cmp e t1 t2, c4, ⟨g1, g2⟩, by simp only [Cd.sz]; omega, ?_⟩
    rw [call_eq h rfl]
    simp [CcmpG, p6, ix3, r1, p2, hu, r2, Cd.W]
theorem condG_sp (h : g.fns[iD]? = some ⟨2, 4, CcondG iP iM, .raw⟩) (P : PickSp g iP) {ws : List (List Nat)} (T : CondGSp g iM 4 ws 9) : CondGSp g iD 5 ws 20 := by
  intro k c m s q hq
  have p6 := P (k + 3) c m 6 s q (by decide) (by decide) hq
  have bd := pkV_bd (c := c) (m := m) (n := 6) (by decide)
  generalize pkV c m 6 = v at p6 bd
  generalize pkS c m 6 = c1 at p6
  obtain ⟨t1, c2, g1, z1, r1⟩ := T k c1 m s q hq
  by_cases h3 : v < 3
  · refine ⟨t1, c2, g1, by omega, ?_⟩
    rw [call_eq h rfl]
    simp [CcondG, p6, r1, h3]
  · by_cases h4 : v = 3
    · subst h4
      refine ⟨.neg t1, c2, g1, by simp only [Cd.sz]; omega, ?_⟩
      rw [call_eq h rfl]
      simp [CcondG, p6, r1, Cd.W]
    · obtain ⟨t2, c3, g2, z2, r2⟩ := T k c2 m s q hq
      have h12 : v = 4 ∨ v = 5 := by omega
      rcases h12 with e | e
      · subst e
        refine ⟨.and_ t1 t2, c3, ⟨g1, g2⟩, by simp only [Cd.sz]; omega, ?_⟩
        rw [call_eq h rfl]
        simp [CcondG, p6, r1, r2, Cd.W]
      · subst e
        refine ⟨.or_ t1 t2, c3, ⟨g1, g2⟩, by simp only [Cd.sz]; omega, ?_⟩
        rw [call_eq h rfl]
        simp [CcondG, p6, r1, r2, Cd.W]
end
end Px

set_option linter.all false
set_option maxRecDepth 100000
set_option maxHeartbeats 0
/-! Px28: reach_of, reach; what a law asks for. -/
namespace Px
open PySem L2
theorem asked_map (c : Cd) : ∃ l : List Ask, c.asked = hereW :: l.map Ask.W ∧ ∀ a, a ∈ l ↔ a ∈ c.asks := by
  have one : ∀ p, ∃ l : List Ask, srtA p c.keys = l.map Ask.W ∧ ∀ a, a ∈ l ↔ a ∈ c.keys ∧ p a = true := fun p => by
    obtain ⟨vs, h1, h2, _⟩ := srt_map Ask.W (c.keys.filter p)
    exact ⟨vs, h2, fun a => by rw [h1.mem_iff, List.mem_filter]⟩
  obtain ⟨b, b1, b2⟩ := one isBack
  obtain ⟨o, o1, o2⟩ := one isOn
  obtain ⟨t, t1, t2⟩ := one isAt
  refine ⟨b ++ o ++ t, by unfold Cd.asked; rw [b1, o1, t1, List.map_append, List.map_append], fun a => ?_⟩
  have hk : a ∈ c.keys ↔ a ∈ c.asks := by unfold Cd.keys; rw [fold_mem]; simp
  rw [List.mem_append, List.mem_append, b2, o2, t2, hk]
  cases a <;> simp [isBack, isOn, isAt]
def numA : Ask → Nat
  | .back n => n
  | .on n => n
  | .at_ _ => 0
def mxA (l : List Ask) (m : Nat) : Nat := l.foldl (fun m a => Nat.max m (numA a)) m
theorem mxA_le : ∀ {l : List Ask} {m b : Nat}, mxA l m ≤ b ↔ m ≤ b ∧ ∀ a ∈ l, numA a ≤ b
  | [], m, b => by simp [mxA]
  | a :: l, m, b => by
    have e : mxA (a :: l) m = mxA l (Nat.max m (numA a)) := rfl
    rw [e, mxA_le]
    constructor
    · rintro ⟨h1, h2⟩
      have h3 := Nat.max_le.mp h1
      exact ⟨h3.1, fun x hx => (List.mem_cons.mp hx).elim (fun e => e ▸ h3.2) (h2 x)⟩
    · rintro ⟨h1, h2⟩
      exact ⟨Nat.max_le.mpr ⟨h1, h2 a List.mem_cons_self⟩, fun x hx => h2 x (List.mem_cons_of_mem _ hx)⟩
theorem mxA_eq {l l' : List Ask} (h : ∀ a, a ∈ l ↔ a ∈ l') (m : Nat) : mxA l m = mxA l' m :=
  Nat.le_antisymm (mxA_le.mpr ⟨(mxA_le.mp (Nat.le_refl _)).1, fun a ha => (mxA_le.mp (Nat.le_refl (mxA l' m))).2 a ((h a).mp ha)⟩)
    (mxA_le.mpr ⟨(mxA_le.mp (Nat.le_refl _)).1, fun a ha => (mxA_le.mp (Nat.le_refl (mxA l m))).2 a ((h a).mpr ha)⟩)
/-- how far a condition reaches -/
def Cd.reach (c : Cd) : Option Nat := if c.asks.any isAt then none else some (mxA c.asks 0)
theorem any_eq {l l' : List Ask} (h : ∀ a, a ∈ l ↔ a ∈ l') (p : Ask → Bool) : l.any p = l'.any p := by
  cases e : l'.any p with
  | true =>
    obtain ⟨x, h1, h2⟩ := List.any_eq_true.mp e
    exact List.any_eq_true.mpr ⟨x, (h x).mpr h1, h2⟩
  | false =>
    rw [List.any_eq_false] at e ⊢
    exact fun x hx => e x ((h x).mp hx)
def CreachOf (iA : Nat) : Ss :=
  .cons (.set 1 (.k (.int 0))) <|
  .cons (.for_ (.one 2) (.val (.call iA (.cons (.v 0) .nil) [])) (.cons (.ite (.op .eq (.ix (.v 2) (.k (.int 0))) (.k (.str [97, 116]))) (.cons (.ret (.k (.non))) .nil) (.nil)) <|
  .cons (.ite (.op .ne (.ix (.v 2) (.k (.int 0))) (.k (.str [104, 101, 114, 101]))) (.cons (.set 1 (.bi true .max (.cons (.v 1) (.cons (.ix (.v 2) (.k (.int 1))) .nil)))) .nil) (.nil)) .nil)) <|
  .cons (.ret (.v 1)) .nil
def Creach (iO : Nat) : Ss :=
  .cons (.set 1 (.k (.int 0))) <|
  .cons (.for_ (.many [2, 3]) (.val (.v 0)) (.cons (.set 4 (.call iO (.cons (.v 3) .nil) [])) <|
  .cons (.ite (.op .is_ (.v 4) (.k (.non))) (.cons (.ret (.k (.non))) .nil) (.nil)) <|
  .cons (.set 1 (.op .add (.v 1) (.v 4))) .nil)) <|
  .cons (.ret (.v 1)) .nil
/-- a def's body is left within a walk -/
theorem for_ret {cl : Nat → List W → St → R W} {mkc : Nat → Nat → List W → St → R W} {mt : Nat → Nat → Option Nat} {xf : Nat → Nat → Option Bool} {xfl : Nat → Option Nat} {tg : Tg} {it : It} {b r : Ss} {e : Env} {s s1 s2 : St} {l : List W} {w : W} {chk : St → Prop} (h : evIt cl mkc mt it e s = .ok ⟨l, chk⟩ s1) (h2 : forL chk tg (evSs cl mkc mt xf xfl b) l e s1 = .ret w s2) : evSs cl mkc mt xf xfl (.cons (.for_ tg it b) r) e s = .ret w s2 := by
  rw [ss_cons, s_for, h]
  show (match forL chk tg (evSs cl mkc mt xf xfl b) l e s1 with
    | .nx e2 s2 => evSs cl mkc mt xf xfl r e2 s2
    | q => q) = _
  rw [h2]
/-- one turn -/
theorem forL_nx {chk : St → Prop} {tg : Tg} {body : Env → St → RS} {x : W} {xs : List W} {e e' e2 : Env} {s s2 : St} (h : chk s) (ht : setTg tg x e = some e') (hb : body e' s = .nx e2 s2) : forL chk tg body (x :: xs) e s = forL chk tg body xs e2 s2 := by
  rw [forL_cons h ht, hb]
theorem forL_ct {chk : St → Prop} {tg : Tg} {body : Env → St → RS} {x : W} {xs : List W} {e e' e2 : Env} {s s2 : St} (h : chk s) (ht : setTg tg x e = some e') (hb : body e' s = .ct e2 s2) : forL chk tg body (x :: xs) e s = forL chk tg body xs e2 s2 := by
  rw [forL_cons h ht, hb]
theorem forL_rt {chk : St → Prop} {tg : Tg} {body : Env → St → RS} {x : W} {xs : List W} {e e' : Env} {s s2 : St} {w : W} (h : chk s) (ht : setTg tg x e = some e') (hb : body e' s = .ret w s2) : forL chk tg body (x :: xs) e s = .ret w s2 := by
  rw [forL_cons h ht, hb]
theorem forL_end {chk : St → Prop} {tg : Tg} {body : Env → St → RS} {e : Env} {s : St} (h : chk s) : forL chk tg body [] e s = .nx e s := by rw [forL_nil, if_pos h]
section
variable {g : Gd} {iA iO iR iL : Nat}
theorem bi_max2 {s : St} {a b : Nat} : biW true .max [.int a, .int b] s = .ok (.int (Nat.max a b : Nat)) s := by
  show R.ok (W.int (if (b : Int) > a then b else a)) s = _
  congr 2
  show _ = ((max a b : Nat) : Int)
  split <;> omega
def ReachOfSp (g : Gd) (i : Nat) : Prop := ∀ (k : Nat) (c : Cd) (s : St), c.sz ≤ 100000 → (∀ a ∈ c.asks, a.ok) → callF g (k + c.sz + 3) i [c.W] s = .ok (oN c.reach) s
theorem reachOf_sp (h : g.fns[iO]? = some ⟨1, 3, CreachOf iA, .raw⟩) (A : AskedSp g iA) : ReachOfSp g iO := by
  intro k c s hz hk
  rw [call_eq h rfl]
  obtain ⟨l, e1, e2⟩ := asked_map c
  have ac := A k c s hz hk
  rw [e1] at ac
  have loop : ∀ (l : List Ask) (m : Nat) (x : Option W), (l.any isAt = false → ∃ x', forL (fun _ => True) (.one 2) (evSs (callF g (k + c.sz + 2)) (mkF g (k + c.sz + 2)) (mtF g) g.xf g.xfl (lpB (at_ 1 (CreachOf iA)))) (l.map Ask.W) [some c.W, some (.int m), x] s = .nx [some c.W, some (.int (mxA l m)), x'] s) ∧
      (l.any isAt = true → forL (fun _ => True) (.one 2) (evSs (callF g (k + c.sz + 2)) (mkF g (k + c.sz + 2)) (mtF g) g.xf g.xfl (lpB (at_ 1 (CreachOf iA)))) (l.map Ask.W) [some c.W, some (.int m), x] s = .ret .non s) := by
    intro l
    induction l with
    | nil => exact fun m x => ⟨fun _ => ⟨x, forL_end trivial⟩, fun h => by cases h⟩
    | cons a l ih =>
      intro m x
      have step : ∀ n, (a = .back n ∨ a = .on n) → evSs (callF g (k + c.sz + 2)) (mkF g (k + c.sz + 2)) (mtF g) g.xf g.xfl (lpB (at_ 1 (CreachOf iA))) [some c.W, some (.int m), some a.W] s = .nx [some c.W, some (.int (Nat.max m n : Nat)), some a.W] s := by
        intro n hn
        rcases hn with e | e <;> subst e <;> simp [lpB, at_, CreachOf, Ask.W, bi_max2]
      cases a with
      | back n =>
        have st := step n (.inl rfl)
        obtain ⟨i1, i2⟩ := ih (Nat.max m n) (some (Ask.back n).W)
        refine ⟨fun h => ?_, fun h => ?_⟩
        · obtain ⟨x', e⟩ := i1 (by simpa [isAt] using h)
          exact ⟨x', by rw [List.map_cons, forL_nx trivial rfl st]; exact e⟩
        · rw [List.map_cons, forL_nx trivial rfl st]; exact i2 (by simpa [isAt] using h)
      | on n =>
        have st := step n (.inr rfl)
        obtain ⟨i1, i2⟩ := ih (Nat.max m n) (some (Ask.on n).W)
        refine ⟨fun h => ?_, fun h => ?_⟩
        · obtain ⟨x', e⟩ := i1 (by simpa [isAt] using h)
          exact ⟨x', by rw [List.map_cons, forL_nx trivial rfl st]; exact e⟩
        · rw [List.map_cons, forL_nx trivial rfl st]; exact i2 (by simpa [isAt] using h)
      | at_ w =>
        refine ⟨fun h => by simp [isAt] at h, fun _ => ?_⟩
        have st : evSs (callF g (k + c.sz + 2)) (mkF g (k + c.sz + 2)) (mtF g) g.xf g.xfl (lpB (at_ 1 (CreachOf iA))) [some c.W, some (.int m), some (Ask.at_ w).W] s = .ret .non s := by
          simp [lpB, at_, CreachOf, Ask.W]
        rw [List.map_cons, forL_rt trivial rfl st]
  have h0 : evSs (callF g (k + c.sz + 2)) (mkF g (k + c.sz + 2)) (mtF g) g.xf g.xfl (lpB (at_ 1 (CreachOf iA))) [some c.W, some (.int 0), some hereW] s = .nx [some c.W, some (.int 0), some hereW] s := by
    simp [lpB, at_, CreachOf, hereW]
  obtain ⟨l1, l2⟩ := loop l 0 (some hereW)
  have b0 : CreachOf iA = .cons (.set 1 (.k (.int 0))) (.cons (.for_ (.one 2) (.val (.call iA (.cons (.v 0) .nil) [])) (lpB (at_ 1 (CreachOf iA)))) (.cons (.ret (.v 1)) .nil)) := rfl
  show fin .raw s (evSs _ _ _ _ _ (CreachOf iA) [some c.W, none, none] s) = _
  rw [b0, set_step (w := .int 0) (s2 := s) (by simp)]
  have it : evIt (callF g (k + c.sz + 2)) (mkF g (k + c.sz + 2)) (mtF g) (.val (.call iA (.cons (.v 0) .nil) [])) [some c.W, some (.int 0), none] s = .ok ⟨hereW :: l.map Ask.W, fun _ => True⟩ s := it_val (by simp [ac]) walk_lst
  have fst : forL (fun _ => True) (.one 2) (evSs (callF g (k + c.sz + 2)) (mkF g (k + c.sz + 2)) (mtF g) g.xf g.xfl (lpB (at_ 1 (CreachOf iA)))) (hereW :: l.map Ask.W) [some c.W, some (.int 0), none] s = forL (fun _ => True) (.one 2) (evSs (callF g (k + c.sz + 2)) (mkF g (k + c.sz + 2)) (mtF g) g.xf g.xfl (lpB (at_ 1 (CreachOf iA)))) (l.map Ask.W) [some c.W, some (.int 0), some hereW] s := forL_nx trivial rfl h0
  unfold Cd.reach
  rw [← any_eq e2, ← mxA_eq e2]
  show fin .raw s (evSs _ _ _ _ _ _ [some c.W, some (.int 0), none] s) = _
  cases e : l.any isAt with
  | true =>
    rw [for_ret it (by rw [fst]; exact l2 e)]
    rfl
  | false =>
    obtain ⟨x', q⟩ := l1 e
    rw [for_step it (by rw [fst]; exact q)]
    simp [oN]
/-! ### reach -/
structure Rl where
  name : List Nat
  c : Cd
def Rl.W (r : Rl) : Px.W := .tup [.str r.name, r.c.W]
def addO : Option Nat → Option Nat → Option Nat
  | some a, some b => some (a + b)
  | _, _ => none
def reachR (rs : List Rl) : Option Nat := rs.foldl (fun o r => addO o r.c.reach) (some 0)
theorem reach_none : ∀ rs : List Rl, rs.foldl (fun o r => addO o r.c.reach) none = none
  | [] => rfl
  | r :: rs => reach_none rs
theorem reach_sp (h : g.fns[iR]? = some ⟨1, 5, Creach iO, .raw⟩) (O : ReachOfSp g iO) (k z : Nat) {rs : List Rl} (s : St) (hz : ∀ r ∈ rs, r.c.sz ≤ z) (z0 : z ≤ 100000) (hk : ∀ r ∈ rs, ∀ a ∈ r.c.asks, a.ok) : callF g (k + z + 4) iR [.lst (rs.map Rl.W)] s = .ok (oN (reachR rs)) s := by
  rw [call_eq h rfl]
  have loop : ∀ (l : List Rl) (m : Nat) (x y z' : Option W), (∀ r ∈ l, r.c.sz ≤ z) → (∀ r ∈ l, ∀ a ∈ r.c.asks, a.ok) → match l.foldl (fun o r => addO o r.c.reach) (some m) with
      | some n => ∃ x' y' z'', forL (fun _ => True) (.many [2, 3]) (evSs (callF g (k + z + 3)) (mkF g (k + z + 3)) (mtF g) g.xf g.xfl (lpB (at_ 1 (Creach iO)))) (l.map Rl.W) [some (.lst (rs.map Rl.W)), some (.int m), x, y, z'] s = .nx [some (.lst (rs.map Rl.W)), some (.int n), x', y', z''] s
      | none => forL (fun _ => True) (.many [2, 3]) (evSs (callF g (k + z + 3)) (mkF g (k + z + 3)) (mtF g) g.xf g.xfl (lpB (at_ 1 (Creach iO)))) (l.map Rl.W) [some (.lst (rs.map Rl.W)), some (.int m), x, y, z'] s = .ret .non s := by
    intro l
    induction l with
    | nil => exact fun m x y z' _ _ => ⟨x, y, z', forL_end trivial⟩
    | cons r l ih =>
      intro m x y z' h1 h2
      have hr := h1 r List.mem_cons_self
      have oc := O (k + z - r.c.sz) r.c s (by omega) (h2 r List.mem_cons_self)
      rw [show k + z - r.c.sz + r.c.sz + 3 = k + z + 3 by omega] at oc
      rw [List.foldl_cons]
      have ht : setTg (.many [2, 3]) r.W [some (.lst (rs.map Rl.W)), some (.int m), x, y, z'] = some [some (.lst (rs.map Rl.W)), some (.int m), some (.str r.name), some r.c.W, z'] := rfl
      cases e : r.c.reach with
      | none =>
        rw [e] at oc
        have st : evSs (callF g (k + z + 3)) (mkF g (k + z + 3)) (mtF g) g.xf g.xfl (lpB (at_ 1 (Creach iO))) [some (.lst (rs.map Rl.W)), some (.int m), some (.str r.name), some r.c.W, z'] s = .ret .non s := by
          simp [lpB, at_, Creach, oc, oN]
        show match l.foldl (fun o r => addO o r.c.reach) none with
          | some n => _
          | none => _
        rw [reach_none]
        rw [List.map_cons, forL_rt trivial ht st]
      | some n =>
        rw [e] at oc
        have st : evSs (callF g (k + z + 3)) (mkF g (k + z + 3)) (mtF g) g.xf g.xfl (lpB (at_ 1 (Creach iO))) [some (.lst (rs.map Rl.W)), some (.int m), some (.str r.name), some r.c.W, z'] s = .nx [some (.lst (rs.map Rl.W)), some (.int (m + n : Nat)), some (.str r.name), some r.c.W, some (.int n)] s := by
          simp [lpB, at_, Creach, oc, oN]
        have z2 := ih (m + n) (some (.str r.name)) (some r.c.W) (some (.int n)) (fun q hq => h1 q (List.mem_cons_of_mem _ hq)) (fun q hq => h2 q (List.mem_cons_of_mem _ hq))
        rw [List.map_cons, forL_nx trivial ht st]
        exact z2
  have l1 := loop rs 0 none none none hz hk
  have b0 : Creach iO = .cons (.set 1 (.k (.int 0))) (.cons (.for_ (.many [2, 3]) (.val (.v 0)) (lpB (at_ 1 (Creach iO)))) (.cons (.ret (.v 1)) .nil)) := rfl
  show fin .raw s (evSs _ _ _ _ _ (Creach iO) [some (.lst (rs.map Rl.W)), none, none, none, none] s) = _
  rw [b0, set_step (w := .int 0) (s2 := s) (by simp)]
  have it : evIt (callF g (k + z + 3)) (mkF g (k + z + 3)) (mtF g) (.val (.v 0)) [some (.lst (rs.map Rl.W)), some (.int 0), none, none, none] s = .ok ⟨rs.map Rl.W, fun _ => True⟩ s := it_val (by simp) walk_lst
  show fin .raw s (evSs _ _ _ _ _ _ [some (.lst (rs.map Rl.W)), some (.int 0), none, none, none] s) = _
  unfold reachR
  cases e : rs.foldl (fun o r => addO o r.c.reach) (some 0) with
  | none =>
    rw [e] at l1
    rw [for_ret it l1]; rfl
  | some n =>
    rw [e] at l1
    obtain ⟨x', y', z', q⟩ := l1
    rw [for_step it q]
    simp [oN]
/-! ### what a law asks for -/
def ClawAsks (iL : Nat) : Ss :=
  .cons (.ite (.or_ (.op .eq (.ix (.v 0) (.k (.int 0))) (.k (.str [98, 97, 99, 107]))) (.op .eq (.ix (.v 0) (.k (.int 0))) (.k (.str [97, 103, 111])))) (.cons (.ret (.lst true (.cons (.tup (.cons (.k (.str [98, 97, 99, 107])) (.cons (.ix (.v 0) (.k (.int 1))) .nil))) .nil))) .nil) (.nil)) <|
  .cons (.ite (.or_ (.op .eq (.ix (.v 0) (.k (.int 0))) (.k (.str [111, 110]))) (.op .eq (.ix (.v 0) (.k (.int 0))) (.k (.str [117, 110, 116, 105, 108])))) (.cons (.ret (.lst true (.cons (.tup (.cons (.k (.str [111, 110])) (.cons (.ix (.v 0) (.k (.int 1))) .nil))) .nil))) .nil) (.nil)) <|
  .cons (.ite (.op .eq (.ix (.v 0) (.k (.int 0))) (.k (.str [97, 116]))) (.cons (.ret (.lst true (.cons (.v 0) .nil))) .nil) (.nil)) <|
  .cons (.set 1 (.lst false (.nil))) <|
  .cons (.for_ (.one 2) (.val (.sl true (.v 0) (.cons (.k (.int 1)) .nil) (.nil))) (.cons (.ite (.and_ (.isi (.v 2) [.tup]) (.isi (.ix (.v 2) (.k (.int 0))) [.str])) (.cons (.ex (.meth true (.v 1) .extend (.cons (.call iL (.cons (.v 2) .nil) []) .nil))) .nil) (.nil)) .nil)) <|
  .cons (.ret (.v 1)) .nil
/-- what stands behind the head: parts, or fractions -/
def Th.rest : Th → List (Th ⊕ (Nat × Nat))
  | .tm (.num t b) => [.inr (t, b)]
  | .tm (.sum _ a b) => [.inl (.tm a), .inl (.tm b)]
  | .tm (.abs a) => [.inl (.tm a)]
  | .tm (.times t b a) => [.inr (t, b), .inl (.tm a)]
  | .tm _ => []
  | .cd (.cmp _ a b) => [.inl (.tm a), .inl (.tm b)]
  | .cd (.neg a) => [.inl (.cd a)]
  | .cd (.and_ a b) => [.inl (.cd a), .inl (.cd b)]
  | .cd (.or_ a b) => [.inl (.cd a), .inl (.cd b)]
def restW : Th ⊕ (Nat × Nat) → Px.W
  | .inl t => t.W
  | .inr p => fr p.1 p.2
def restA : Th ⊕ (Nat × Nat) → List Ask
  | .inl t => t.asks
  | .inr _ => []
theorem Th.head (t : Th) : ∃ x l, t.W = .tup (.str x :: l) := by
  cases t with
  | tm t => cases t <;> exact ⟨_, _, rfl⟩
  | cd c => cases c <;> exact ⟨_, _, rfl⟩
theorem Th.rest_sz (t : Th) : ∀ p, Sum.inl p ∈ t.rest → p.sz < t.sz := by
  cases t with
  | tm t => cases t <;> simp [Th.rest, Th.sz, Tm.sz] <;> omega
  | cd c => cases c <;> simp [Th.rest, Th.sz, Cd.sz] <;> omega
theorem ext_ok {st : St} {n : Nat} {l l2 : List W} (e : st[n]? = some (.lst l)) (h : l.length + l2.length ≤ line) : mExtend st (.ref n) [.lst l2] = .ok .non (st.set n (.lst (l ++ l2))) := by
  show (match st[n]?, lstOf st (.lst l2) with
    | some (O.lst l), some l2 => if l.length + l2.length ≤ line then R.ok W.non (st.set n (.lst (l ++ l2))) else .bad
    | _, _ => .bad) = _
  rw [e]
  exact if_pos h
def LawAsksSp (g : Gd) (i : Nat) : Prop := ∀ (k : Nat) (t : Th) (s : St), t.sz ≤ 100000 → (∀ a ∈ t.asks, a.ok) → callF g (k + t.sz + 1) i [t.W] s = .ok (.lst (t.asks.map Ask.W)) s
theorem asks_datL {l : List Ask} (h : ∀ a ∈ l, a.ok) {d : Nat} : datL (d + 1) (l.map Ask.W) = true := datL_map fun a ha => ask_dat (h a ha)
theorem lawAsks_sp (h : g.fns[iL]? = some ⟨1, 3, ClawAsks iL, .pure⟩) : LawAsksSp g iL := by
  have main : ∀ (m k : Nat) (t : Th) (s : St), t.sz ≤ m → t.sz ≤ 100000 → (∀ a ∈ t.asks, a.ok) → callF g (k + t.sz + 1) iL [t.W] s = .ok (.lst (t.asks.map Ask.W)) s := by
    intro m
    induction m with
    | zero => intro k t s hm; have := t.sz_pos; omega
    | succ m ih =>
      intro k t s hm hz hk
      rw [call_eq h rfl]
      have hp := t.sz_pos
      have far : ∀ q n, t = .tm (.far q n) → fin .pure s (evSs (callF g (k + t.sz)) (mkF g (k + t.sz)) (mtF g) g.xf g.xfl (ClawAsks iL) [some t.W, none, none] s) = .ok (.lst (t.asks.map Ask.W)) s := by
        intro q n e
        subst e
        have d1 : ∀ a : Ask, a.ok → dat 10 (.lst [a.W]) = true := fun a ha => by
          rw [dat_lst, datL_cons, ask_dat ha, datL_nil]; rfl
        match q with
        | 0 => simp [ClawAsks, Th.W, Tm.W, farL, Th.asks, Tm.asks, farAsk]; exact fin_dat (d := 10) (by simp) (d1 (.back n) trivial)
        | 1 => simp [ClawAsks, Th.W, Tm.W, farL, Th.asks, Tm.asks, farAsk]; exact fin_dat (d := 10) (by simp) (d1 (.on n) trivial)
        | 2 => simp [ClawAsks, Th.W, Tm.W, farL, Th.asks, Tm.asks, farAsk]; exact fin_dat (d := 10) (by simp) (d1 (.back n) trivial)
        | 3 => simp [ClawAsks, Th.W, Tm.W, farL, Th.asks, Tm.asks, farAsk]; exact fin_dat (d := 10) (by simp) (d1 (.on n) trivial)
      have at1 : ∀ w, t = .tm (.at_ w) → fin .pure s (evSs (callF g (k + t.sz)) (mkF g (k + t.sz)) (mtF g) g.xf g.xfl (ClawAsks iL) [some t.W, none, none] s) = .ok (.lst (t.asks.map Ask.W)) s := by
        intro w e
        subst e
        have ha : (Ask.at_ w).ok := hk (.at_ w) (by simp [Th.asks, Tm.asks])
        simp [ClawAsks, Th.W, Tm.W, Th.asks, Tm.asks]
        exact fin_dat (d := 10) (by simp) (by rw [dat_lst, datL_cons, show dat 9 (.tup [.str [97, 116], .str w]) = true from ask_dat (a := .at_ w) ha, datL_nil]; rfl)
      have go : (∀ x : Nat, ∃ y, t.W = .tup (.str y :: t.rest.map restW) ∧ (∀ S : St, evSs (callF g (k + t.sz)) (mkF g (k + t.sz)) (mtF g) g.xf g.xfl (ClawAsks iL) [some t.W, none, none] S = evSs (callF g (k + t.sz)) (mkF g (k + t.sz)) (mtF g) g.xf g.xfl (tl 3 (ClawAsks iL)) [some t.W, none, none] S) ∧ t.asks = (t.rest.map restA).flatten ∧ x = x) → fin .pure s (evSs (callF g (k + t.sz)) (mkF g (k + t.sz)) (mtF g) g.xf g.xfl (ClawAsks iL) [some t.W, none, none] s) = .ok (.lst (t.asks.map Ask.W)) s := by
        intro hh
        obtain ⟨y, eW, e0, ea, _⟩ := hh 0
        have al := t.asks_len
        -- the walk
        have walk : ∀ (ps : List (Th ⊕ (Nat × Nat))) (x : Option W) (acc : List W), (∀ p, Sum.inl p ∈ ps → p.sz < t.sz ∧ ∀ a ∈ p.asks, a ∈ t.asks) → acc.length + ((ps.map restA).flatten).length ≤ 1000000 → ∃ x', forL (fun _ => True) (.one 2) (evSs (callF g (k + t.sz)) (mkF g (k + t.sz)) (mtF g) g.xf g.xfl (lpB (at_ 4 (ClawAsks iL)))) (ps.map restW) [some t.W, some (.ref s.length), x] (s ++ [.lst acc]) = .nx [some t.W, some (.ref s.length), x'] (s ++ [.lst (acc ++ (ps.map restA).flatten.map Ask.W)]) := by
          intro ps
          induction ps with
          | nil => exact fun x acc _ _ => ⟨x, by rw [List.map_nil, forL_end trivial]; simp⟩
          | cons p ps ihp =>
            intro x acc hs hl
            rw [List.map_cons, List.flatten_cons, List.length_append] at hl
            cases p with
            | inr f =>
              obtain ⟨x', e⟩ := ihp (some (fr f.1 f.2)) acc (fun q hq => hs q (List.mem_cons_of_mem _ hq)) (by simp [restA] at hl ⊢; omega)
              have st : evSs (callF g (k + t.sz)) (mkF g (k + t.sz)) (mtF g) g.xf g.xfl (lpB (at_ 4 (ClawAsks iL))) [some t.W, some (.ref s.length), some (fr f.1 f.2)] (s ++ [.lst acc]) = .nx [some t.W, some (.ref s.length), some (fr f.1 f.2)] (s ++ [.lst acc]) := by
                simp [lpB, at_, ClawAsks, fr, isTy]
              refine ⟨x', ?_⟩
              rw [List.map_cons, forL_nx trivial rfl st, e]
              simp [restA]
            | inl q =>
              obtain ⟨q1, q2⟩ := hs q List.mem_cons_self
              have c1 := ih (k + t.sz - q.sz - 1) q (s ++ [.lst acc]) (by omega) (by omega) (fun a ha => hk a (q2 a ha))
              rw [show k + t.sz - q.sz - 1 + q.sz + 1 = k + t.sz by omega] at c1
              obtain ⟨x', e⟩ := ihp (some q.W) (acc ++ q.asks.map Ask.W) (fun z hz => hs z (List.mem_cons_of_mem _ hz)) (by simp [restA] at hl ⊢; omega)
              obtain ⟨hx, hlst, hW⟩ := q.head
              have ex := ext_ok (st := s ++ [.lst acc]) (l2 := q.asks.map Ask.W) (at_end (x := .lst acc)) (by simp [restA] at hl ⊢; show _ ≤ 16777216; omega)
              rw [set_end] at ex
              have st : evSs (callF g (k + t.sz)) (mkF g (k + t.sz)) (mtF g) g.xf g.xfl (lpB (at_ 4 (ClawAsks iL))) [some t.W, some (.ref s.length), some q.W] (s ++ [.lst acc]) = .nx [some t.W, some (.ref s.length), some q.W] (s ++ [.lst (acc ++ q.asks.map Ask.W)]) := by
                have i1 : isTy (s ++ [O.lst acc]) q.W .tup = some true := by rw [hW]; rfl
                have i2 : ixW (s ++ [O.lst acc]) q.W (.int 0) = .ok (.str hx) (s ++ [O.lst acc]) := by rw [hW]; rfl
                have i3 : isTy (s ++ [O.lst acc]) (.str hx) .str = some true := rfl
                generalize q.W = QW at *
                simp [lpB, at_, ClawAsks, i1, i2, i3, c1, recv_end, mok, methW, ex]
              refine ⟨x', ?_⟩
              rw [List.map_cons, forL_nx trivial rfl st, e]
              simp [restA]
        obtain ⟨x', w1⟩ := walk t.rest none [] (fun p hp => ⟨t.rest_sz p hp, fun a ha => by
          rw [ea, List.mem_flatten]
          exact ⟨p.asks, List.mem_map.mpr ⟨_, hp, rfl⟩, ha⟩⟩) (by rw [← ea]; simp; omega)
        rw [e0 s]
        have b0 : tl 3 (ClawAsks iL) = .cons (.set 1 (.lst false (.nil))) (.cons (.for_ (.one 2) (.val (.sl true (.v 0) (.cons (.k (.int 1)) .nil) (.nil))) (lpB (at_ 4 (ClawAsks iL)))) (.cons (.ret (.v 1)) .nil)) := rfl
        rw [b0, set_step (w := .ref s.length) (s2 := s ++ [.lst []]) (by simp)]
        have it : evIt (callF g (k + t.sz)) (mkF g (k + t.sz)) (mtF g) (.val (.sl true (.v 0) (.cons (.k (.int 1)) .nil) (.nil))) [some t.W, some (.ref s.length), none] (s ++ [.lst []]) = .ok ⟨t.rest.map restW, fun _ => True⟩ (s ++ [.lst []]) := by
          refine it_val (w := .tup (t.rest.map restW)) ?_ walk_tup
          rw [eW]
          simp [sl1]
        show fin .pure s (evSs _ _ _ _ _ _ [some t.W, some (.ref s.length), none] (s ++ [.lst []])) = _
        rw [for_step it w1, List.nil_append, ← ea]
        have rt : evSs (callF g (k + t.sz)) (mkF g (k + t.sz)) (mtF g) g.xf g.xfl (.cons (.ret (.v 1)) .nil) [some t.W, some (.ref s.length), x'] (s ++ [.lst (t.asks.map Ask.W)]) = .ret (.ref s.length) (s ++ [.lst (t.asks.map Ask.W)]) := by simp
        rw [rt]
        exact fin_lst (d := 10) (by simp) (Nat.le_refl _) at_end (asks_datL hk)
      show fin .pure s (evSs _ _ _ _ _ (ClawAsks iL) [some t.W, none, none] s) = _
      cases t with
      | tm t =>
        cases t with
        | far q n => exact far q n rfl
        | at_ w => exact at1 w rfl
        | num a b => exact go fun _ => ⟨_, rfl, fun S => by simp [ClawAsks, tl, Th.W, Tm.W], by simp [Th.asks, Tm.asks, Th.rest, restA], rfl⟩
        | here => exact go fun _ => ⟨_, rfl, fun S => by simp [ClawAsks, tl, Th.W, Tm.W], by simp [Th.asks, Tm.asks, Th.rest, restA], rfl⟩
        | sum m a b => exact go fun _ => ⟨_, rfl, fun S => by cases m <;> simp [ClawAsks, tl, Th.W, Tm.W, sgnL], by simp [Th.asks, Tm.asks, Th.rest, restA], rfl⟩
        | abs a => exact go fun _ => ⟨_, rfl, fun S => by simp [ClawAsks, tl, Th.W, Tm.W], by simp [Th.asks, Tm.asks, Th.rest, restA], rfl⟩
        | times a b x => exact go fun _ => ⟨_, rfl, fun S => by simp [ClawAsks, tl, Th.W, Tm.W], by simp [Th.asks, Tm.asks, Th.rest, restA], rfl⟩
      | cd c =>
        cases c with
        | cmp e a b => exact go fun _ => ⟨_, rfl, fun S => by cases e <;> simp [ClawAsks, tl, Th.W, Cd.W, cmpL], by simp [Th.asks, Cd.asks, Th.rest, restA], rfl⟩
        | neg a => exact go fun _ => ⟨_, rfl, fun S => by simp [ClawAsks, tl, Th.W, Cd.W], by simp [Th.asks, Cd.asks, Th.rest, restA], rfl⟩
        | and_ a b => exact go fun _ => ⟨_, rfl, fun S => by simp [ClawAsks, tl, Th.W, Cd.W], by simp [Th.asks, Cd.asks, Th.rest, restA], rfl⟩
        | or_ a b => exact go fun _ => ⟨_, rfl, fun S => by simp [ClawAsks, tl, Th.W, Cd.W], by simp [Th.asks, Cd.asks, Th.rest, restA], rfl⟩
  exact fun k t s => main t.sz k t s (Nat.le_refl _)
end
end Px

set_option linter.all false
set_option maxRecDepth 100000
set_option maxHeartbeats 0
/-! Px29: drawn conditions: what they ask for, how deep they are. -/
namespace Px
open PySem
theorem Tm.asks_gd {ws : List (List Nat)} : ∀ {t : Tm}, t.gd ws → ∀ a ∈ t.asks, ∀ w, a = .at_ w → w ∈ ws
  | .num _ _, _, a, h, _, _ => by simp [Tm.asks] at h
  | .here, _, a, h, _, _ => by simp [Tm.asks] at h
  | .at_ v, g, a, h, w, e => by simp [Tm.asks] at h; subst h; cases e; exact g
  | .far k n, _, a, h, w, e => by
    simp [Tm.asks] at h
    subst h
    match k with
    | 0 => cases e
    | 1 => cases e
    | 2 => cases e
    | 3 => cases e
  | .sum _ x y, g, a, h, w, e => by
    simp only [Tm.asks, List.mem_append] at h
    exact h.elim (fun h => Tm.asks_gd g.1 a h w e) fun h => Tm.asks_gd g.2 a h w e
  | .abs x, g, a, h, w, e => Tm.asks_gd (t := x) g a h w e
  | .times _ _ x, g, a, h, w, e => Tm.asks_gd (t := x) g.2.2.2.2 a h w e
theorem Cd.asks_gd {ws : List (List Nat)} : ∀ {t : Cd}, t.gd ws → ∀ a ∈ t.asks, ∀ w, a = .at_ w → w ∈ ws
  | .cmp _ x y, g, a, h, w, e => by
    simp only [Cd.asks, List.mem_append] at h
    exact h.elim (fun h => Tm.asks_gd g.1 a h w e) fun h => Tm.asks_gd g.2 a h w e
  | .neg x, g, a, h, w, e => Cd.asks_gd (t := x) g a h w e
  | .and_ x y, g, a, h, w, e => by
    simp only [Cd.asks, List.mem_append] at h
    exact h.elim (fun h => Cd.asks_gd g.1 a h w e) fun h => Cd.asks_gd g.2 a h w e
  | .or_ x y, g, a, h, w, e => by
    simp only [Cd.asks, List.mem_append] at h
    exact h.elim (fun h => Cd.asks_gd g.1 a h w e) fun h => Cd.asks_gd g.2 a h w e
theorem gd_ok {ws : List (List Nat)} (hw : WsOk ws) {c : Cd} (h : c.gd ws) : ∀ a ∈ c.asks, a.ok := fun a ha => by
  cases a with
  | back n => trivial
  | on n => trivial
  | at_ w => exact hw.2 w (Cd.asks_gd h _ ha w rfl)
/-! depth -/
theorem dat_tup' {d : Nat} {l : List W} : dat (d + 1) (.tup l) = datL d l := by simp only [dat]
theorem Tm.dat_gd {ws : List (List Nat)} (hw : WsOk ws) : ∀ {t : Tm}, t.gd ws → ∀ d, t.sz + 1 ≤ d → dat d t.W = true
  | .num p q, _, d + 2, _ => by simp [Tm.W, fr, dat, datL]
  | .here, _, d + 2, _ => by simp [Tm.W, dat, datL]
  | .at_ v, g, d + 2, _ => by
    have := dat_str (d := d + 1) (hw.2 v g)
    simp only [Tm.W, dat_tup', datL_cons, this, datL_nil]
    simp [dat]
  | .far k n, _, d + 2, _ => by
    match k with
    | 0 => simp [Tm.W, farL, dat, datL]
    | 1 => simp [Tm.W, farL, dat, datL]
    | 2 => simp [Tm.W, farL, dat, datL]
    | 3 => simp [Tm.W, farL, dat, datL]
  | .sum m a b, g, d + 1, h => by
    simp only [Tm.sz] at h
    have h1 := Tm.dat_gd hw g.1 d (by omega)
    have h2 := Tm.dat_gd hw g.2 d (by omega)
    simp only [Tm.W, dat_tup', datL_cons, h1, h2, datL_nil]
    cases m <;> simp [dat, sgnL]
  | .abs a, g, d + 1, h => by
    simp only [Tm.sz] at h
    have h1 := Tm.dat_gd hw (t := a) g d (by omega)
    simp only [Tm.W, dat_tup', datL_cons, h1, datL_nil]
    simp [dat]
  | .times p q a, g, d + 2, h => by
    simp only [Tm.sz] at h
    have h1 := Tm.dat_gd hw (t := a) g.2.2.2.2 (d + 1) (by omega)
    simp only [Tm.W, dat_tup', datL_cons, h1, datL_nil, fr]
    simp [dat]
  | .times p q a, _, 1, h => by have := a.sz_pos; simp only [Tm.sz] at h; omega
  | .num _ _, _, 1, h => by simp only [Tm.sz] at h; omega
  | .here, _, 1, h => by simp only [Tm.sz] at h; omega
  | .at_ _, _, 1, h => by simp only [Tm.sz] at h; omega
  | .far _ _, _, 1, h => by simp only [Tm.sz] at h; omega
  | t, _, 0, h => by omega
theorem Cd.dat_gd {ws : List (List Nat)} (hw : WsOk ws) : ∀ {t : Cd}, t.gd ws → ∀ d, t.sz + 1 ≤ d → dat d t.W = true
  | .cmp m a b, g, d + 1, h => by
    simp only [Cd.sz] at h
    have h1 := Tm.dat_gd hw g.1 d (by omega)
    have h2 := Tm.dat_gd hw g.2 d (by omega)
    simp only [Cd.W, dat_tup', datL_cons, h1, h2, datL_nil]
    cases m <;> simp [dat, cmpL]
  | .neg a, g, d + 1, h => by
    simp only [Cd.sz] at h
    have h1 := Cd.dat_gd hw (t := a) g d (by omega)
    simp only [Cd.W, dat_tup', datL_cons, h1, datL_nil]
    simp [dat]
  | .and_ a b, g, d + 1, h => by
    simp only [Cd.sz] at h
    have h1 := Cd.dat_gd hw g.1 d (by omega)
    have h2 := Cd.dat_gd hw g.2 d (by omega)
    simp only [Cd.W, dat_tup', datL_cons, h1, h2, datL_nil]
    simp [dat]
  | .or_ a b, g, d + 1, h => by
    simp only [Cd.sz] at h
    have h1 := Cd.dat_gd hw g.1 d (by omega)
    have h2 := Cd.dat_gd hw g.2 d (by omega)
    simp only [Cd.W, dat_tup', datL_cons, h1, h2, datL_nil]
    simp [dat]
  | t, _, 0, h => by omega
structure ROk (ws : List (List Nat)) (r : Rl) : Prop where
  gd : r.c.gd ws
  sz : r.c.sz ≤ 20
  nm : ∀ x ∈ r.name, x < 128
theorem ROk.dat {ws : List (List Nat)} (hw : WsOk ws) {r : Rl} (h : ROk ws r) {d : Nat} (hd : 22 ≤ d) : Px.dat d r.W = true := by
  obtain ⟨d, rfl⟩ := Nat.exists_eq_add_of_le hd
  have h1 := Cd.dat_gd hw h.gd (21 + d) (by have := h.sz; omega)
  have h2 := dat_str (d := 21 + d) h.nm
  unfold Rl.W
  rw [show 22 + d = (21 + d) + 1 by omega, dat_tup', datL_cons, h2, datL_cons, h1, datL_nil]; rfl
def isAtW : W → Bool
  | .tup (.str x :: _) => decide (x = [97, 116])
  | _ => false
def sndW : W → W
  | .tup [_, y] => y
  | w => w
theorem filt_at {l : List Ask} : ((l.map Ask.W).filter isAtW) = (l.filter isAt).map Ask.W := by
  rw [List.filter_map]
  congr 1
  exact List.filter_congr fun a _ => by cases a <;> simp [Ask.W, isAt, isAtW]
theorem maxI_mx : ∀ (l : List Ask) (m : Nat), maxI m (l.map fun a => (numA a : Int)) = (mxA l m : Nat)
  | [], m => rfl
  | a :: l, m => by
    rw [List.map_cons]
    show maxI (if (m : Int) < numA a then (numA a : Int) else m) _ = _
    have e : (if (m : Int) < numA a then (numA a : Int) else m) = ((Nat.max m (numA a) : Nat) : Int) := by
      show _ = ((max m (numA a) : Nat) : Int)
      split <;> omega
    rw [e, maxI_mx l (Nat.max m (numA a))]; rfl
theorem asInts : ∀ l : List Int, allAs asInt (l.map W.int) = some l
  | [] => rfl
  | x :: l => by simp [allAs, asInt, asInts l]
end Px

set_option linter.all false
set_option maxRecDepth 100000
namespace K72
open PySem PySem.Spec PyProof.Rows L2 Px
def kd_FAR : List (List Nat × W) := [([98, 97, 99, 107], .str [98, 97, 99, 107]), ([97, 103, 111], .str [98, 97, 99, 107]), ([111, 110], .str [111, 110]), ([117, 110, 116, 105, 108], .str [111, 110])]
/-- parts_of: thing -/
def b0 : Ss :=
  .cons (.ite (.or_ (.op .in_ (.ix (.v 0) (.k (.int 0))) (.tup (.cons (.k (.str [110, 117, 109])) (.cons (.k (.str [104, 101, 114, 101])) (.cons (.k (.str [97, 116])) .nil))))) (.kin false (.ix (.v 0) (.k (.int 0))) kd_FAR)) (.cons (.ret (.lst true (.nil))) .nil) (.nil)) <|
  .cons (.ite (.op .eq (.ix (.v 0) (.k (.int 0))) (.k (.str [116, 105, 109, 101, 115]))) (.cons (.ret (.lst true (.cons (.ix (.v 0) (.k (.int 2))) .nil))) .nil) (.nil)) <|
  .cons (.ret (.bi true .list (.cons (.sl true (.v 0) (.cons (.k (.int 1)) .nil) (.nil)) .nil))) .nil
/-- collect: thing, found, part -/
def b1 : Ss :=
  .cons (.ite (.kin false (.ix (.v 0) (.k (.int 0))) kd_FAR) (.cons (.setI (.v 1) (.tup (.cons (.kix kd_FAR (.ix (.v 0) (.k (.int 0)))) (.cons (.ix (.v 0) (.k (.int 1))) .nil))) (.k (.bl true))) .nil) (.cons (.ite (.op .eq (.ix (.v 0) (.k (.int 0))) (.k (.str [97, 116]))) (.cons (.setI (.v 1) (.v 0) (.k (.bl true))) .nil) (.nil)) .nil)) <|
  .cons (.for_ (.one 2) (.val (.call 0 (.cons (.v 0) .nil) [])) (.cons (.ex (.call 1 (.cons (.v 2) (.cons (.v 1) .nil)) [])) .nil)) .nil
/-- asked_by: condition, found, some, kind, one -/
def b2 : Ss :=
  .cons (.set 1 (.dct true (.nil))) <|
  .cons (.ex (.call 1 (.cons (.v 0) (.cons (.v 1) .nil)) [])) <|
  .cons (.set 2 (.lst true (.cons (.k (.tup [.str [104, 101, 114, 101]])) .nil))) <|
  .cons (.for_ (.one 3) (.val (.tup (.cons (.k (.str [98, 97, 99, 107])) (.cons (.k (.str [111, 110])) (.cons (.k (.str [97, 116])) .nil))))) (.cons (.set 2 (.op .add (.v 2) (.bi true .sorted (.cons (.lc true (.one 4) (.val (.v 1)) (.op .eq (.ix (.v 4) (.k (.int 0))) (.v 3)) (.v 4)) .nil)))) .nil)) <|
  .cons (.ret (.v 2)) .nil
/-- reach_of: condition, found, ask -/
def b3 : Ss :=
  .cons (.set 1 (.k (.int 0))) <|
  .cons (.for_ (.one 2) (.val (.call 2 (.cons (.v 0) .nil) [])) (.cons (.ite (.op .eq (.ix (.v 2) (.k (.int 0))) (.k (.str [97, 116]))) (.cons (.ret (.k (.non))) .nil) (.nil)) <|
  .cons (.ite (.op .ne (.ix (.v 2) (.k (.int 0))) (.k (.str [104, 101, 114, 101]))) (.cons (.set 1 (.bi true .max (.cons (.v 1) (.cons (.ix (.v 2) (.k (.int 1))) .nil)))) .nil) (.nil)) .nil)) <|
  .cons (.ret (.v 1)) .nil
/-- reach: rules, found, name, condition, here -/
def b4 : Ss :=
  .cons (.set 1 (.k (.int 0))) <|
  .cons (.for_ (.many [2, 3]) (.val (.v 0)) (.cons (.set 4 (.call 3 (.cons (.v 3) .nil) [])) <|
  .cons (.ite (.op .is_ (.v 4) (.k (.non))) (.cons (.ret (.k (.non))) .nil) (.nil)) <|
  .cons (.set 1 (.op .add (.v 1) (.v 4))) .nil)) <|
  .cons (.ret (.v 1)) .nil
/-- _law_cell_at: _law_script, _law_k -/
def b5 : Ss :=
  .cons (.ite (.op .lt (.v 1) (.bi true .len (.cons (.v 0) .nil))) (.cons (.ret (.ix (.v 0) (.v 1))) .nil) (.nil)) <|
  .cons (.ret (.k (.int 0))) .nil
/-- _law_low: _law_top, _law_bottom, _law_one, _law_other -/
def b6 : Ss :=
  .cons (.par [2, 3] (.cons (.bi true .abs (.cons (.v 0) .nil)) (.cons (.v 1) .nil))) <|
  .cons (.whl (.op .gt (.v 3) (.k (.int 0))) (.cons (.par [2, 3] (.cons (.v 3) (.cons (.op .mod (.v 2) (.v 3)) .nil))) .nil)) <|
  .cons (.ret (.tup (.cons (.op .fdiv (.v 0) (.v 2)) (.cons (.op .fdiv (.v 1) (.v 2)) .nil)))) .nil
/-- _law_word: _law_cell, _law_k, _law_letters, _law_stride, _law_pair, _law_more, _law_j -/
def b7 : Ss :=
  .cons (.set 2 (.k (.str [97, 98, 99, 100, 101, 102, 103, 104, 105, 106, 107, 108, 109, 110, 111, 112, 113, 114, 115, 116, 117, 118, 119, 120, 121, 122]))) <|
  .cons (.set 3 (.ix (.lst true (.cons (.k (.int 1)) (.cons (.k (.int 3)) (.cons (.k (.int 5)) (.cons (.k (.int 7)) (.cons (.k (.int 9)) (.cons (.k (.int 11)) (.cons (.k (.int 15)) (.cons (.k (.int 17)) (.cons (.k (.int 19)) (.cons (.k (.int 21)) (.cons (.k (.int 23)) (.cons (.k (.int 25)) .nil))))))))))))) (.op .mod (.op .fdiv (.v 0) (.k (.int 26))) (.k (.int 12))))) <|
  .cons (.set 4 (.op .add (.ix (.v 2) (.op .mod (.op .add (.v 0) (.op .mul (.v 1) (.v 3))) (.k (.int 26)))) (.ix (.k (.str [113, 120, 122])) (.op .mod (.op .fdiv (.v 1) (.k (.int 26))) (.k (.int 3)))))) <|
  .cons (.set 5 (.k (.str []))) <|
  .cons (.for_ (.one 6) (.range (.cons (.op .mod (.op .fdiv (.v 0) (.k (.int 312))) (.k (.int 7))) .nil)) (.cons (.set 5 (.op .add (.v 5) (.ix (.k (.str [113, 120, 122])) (.op .mod (.op .fdiv (.v 0) (.op .add (.k (.int 3)) (.v 6))) (.k (.int 3)))))) .nil)) <|
  .cons (.ite (.op .eq (.op .mod (.op .fdiv (.v 0) (.k (.int 2184))) (.k (.int 2))) (.k (.int 1))) (.cons (.ret (.op .add (.v 5) (.v 4))) .nil) (.nil)) <|
  .cons (.ret (.op .add (.v 4) (.v 5))) .nil
/-- _law_pick: _law_stream, _law_many, _law_found -/
def b8 : Ss :=
  .cons (.ite (.op .eq (.ix (.v 0) (.k (.int 1))) (.k (.int 0))) (.cons (.set 2 (.op .mod (.ix (.v 0) (.k (.int 0))) (.v 1))) <|
  .cons (.setI (.v 0) (.k (.int 0)) (.op .fdiv (.ix (.v 0) (.k (.int 0))) (.v 1))) <|
  .cons (.ret (.v 2)) .nil) (.nil)) <|
  .cons (.setI (.v 0) (.k (.int 0)) (.op .mod (.op .add (.op .mul (.op .mod (.ix (.v 0) (.k (.int 0))) (.k (.int 2147483647))) (.k (.int 48271))) (.k (.int 1013))) (.k (.int 2147483629)))) <|
  .cons (.ret (.op .mod (.op .fdiv (.op .mod (.op .mul (.ix (.v 0) (.k (.int 0))) (.k (.int 69621))) (.k (.int 2147483587))) (.k (.int 11))) (.v 1))) .nil
/-- _law_term: _law_stream, _law_words, _law_way, _law_far -/
def b9 : Ss :=
  .cons (.set 2 (.call 8 (.cons (.v 0) (.cons (.k (.int 10)) .nil)) [])) <|
  .cons (.ite (.op .eq (.v 2) (.k (.int 0))) (.cons (.ret (.tup (.cons (.k (.str [110, 117, 109])) (.cons (.call 6 (.cons (.call 8 (.cons (.v 0) (.cons (.k (.int 9)) .nil)) []) (.cons (.op .add (.k (.int 1)) (.call 8 (.cons (.v 0) (.cons (.k (.int 3)) .nil)) [])) .nil)) []) .nil)))) .nil) (.nil)) <|
  .cons (.ite (.and_ (.op .eq (.v 2) (.k (.int 8))) (.op .ne (.v 1) (.lst true (.nil)))) (.cons (.ret (.tup (.cons (.k (.str [97, 116])) (.cons (.ix (.v 1) (.call 8 (.cons (.v 0) (.cons (.bi true .len (.cons (.v 1) .nil)) .nil)) [])) .nil)))) .nil) (.nil)) <|
  .cons (.ite (.op .in_ (.v 2) (.lst true (.cons (.k (.int 1)) (.cons (.k (.int 2)) (.cons (.k (.int 8)) (.cons (.k (.int 9)) .nil)))))) (.cons (.ret (.tup (.cons (.k (.str [104, 101, 114, 101])) .nil))) .nil) (.nil)) <|
  .cons (.set 3 (.op .add (.k (.int 1)) (.call 8 (.cons (.v 0) (.cons (.k (.int 3)) .nil)) []))) <|
  .cons (.ite (.op .eq (.v 3) (.k (.int 3))) (.cons (.set 3 (.op .add (.k (.int 1)) (.call 8 (.cons (.v 0) (.cons (.k (.int 9)) .nil)) []))) .nil) (.nil)) <|
  .cons (.ret (.tup (.cons (.ix (.lst true (.cons (.k (.str [98, 97, 99, 107])) (.cons (.k (.str [98, 97, 99, 107])) (.cons (.k (.str [111, 110])) (.cons (.k (.str [97, 103, 111])) (.cons (.k (.str [117, 110, 116, 105, 108])) .nil)))))) (.op .sub (.v 2) (.k (.int 3)))) (.cons (.v 3) .nil)))) .nil
/-- _law_sum: _law_stream, _law_words, _law_way, _law_one, _law_other -/
def b10 : Ss :=
  .cons (.set 2 (.call 8 (.cons (.v 0) (.cons (.k (.int 6)) .nil)) [])) <|
  .cons (.set 3 (.call 9 (.cons (.v 0) (.cons (.v 1) .nil)) [])) <|
  .cons (.ite (.op .eq (.v 2) (.k (.int 3))) (.cons (.ret (.tup (.cons (.k (.str [116, 105, 109, 101, 115])) (.cons (.call 6 (.cons (.call 8 (.cons (.v 0) (.cons (.k (.int 4)) .nil)) []) (.cons (.op .add (.k (.int 1)) (.call 8 (.cons (.v 0) (.cons (.k (.int 3)) .nil)) [])) .nil)) []) (.cons (.v 3) .nil))))) .nil) (.nil)) <|
  .cons (.ite (.op .gt (.v 2) (.k (.int 3))) (.cons (.ret (.v 3)) .nil) (.nil)) <|
  .cons (.set 4 (.call 9 (.cons (.v 0) (.cons (.v 1) .nil)) [])) <|
  .cons (.ite (.op .eq (.v 2) (.k (.int 0))) (.cons (.ret (.tup (.cons (.k (.str [97, 98, 115])) (.cons (.tup (.cons (.k (.str [45])) (.cons (.v 3) (.cons (.v 4) .nil)))) .nil)))) .nil) (.nil)) <|
  .cons (.ret (.tup (.cons (.ix (.lst true (.cons (.k (.str [43])) (.cons (.k (.str [45])) .nil))) (.op .sub (.v 2) (.k (.int 1)))) (.cons (.v 3) (.cons (.v 4) .nil))))) .nil
/-- _law_compare: _law_stream, _law_words, _law_sign, _law_one -/
def b11 : Ss :=
  .cons (.set 2 (.ix (.lst true (.cons (.k (.str [60])) (.cons (.k (.str [60])) (.cons (.k (.str [61])) .nil)))) (.call 8 (.cons (.v 0) (.cons (.k (.int 3)) .nil)) []))) <|
  .cons (.set 3 (.call 10 (.cons (.v 0) (.cons (.v 1) .nil)) [])) <|
  .cons (.ite (.op .eq (.call 8 (.cons (.v 0) (.cons (.k (.int 2)) .nil)) []) (.k (.int 0))) (.cons (.ret (.tup (.cons (.v 2) (.cons (.v 3) (.cons (.tup (.cons (.k (.str [110, 117, 109])) (.cons (.call 6 (.cons (.call 8 (.cons (.v 0) (.cons (.k (.int 6)) .nil)) []) (.cons (.op .add (.k (.int 1)) (.call 8 (.cons (.v 0) (.cons (.k (.int 2)) .nil)) [])) .nil)) []) .nil))) .nil))))) .nil) (.nil)) <|
  .cons (.ret (.tup (.cons (.v 2) (.cons (.v 3) (.cons (.call 10 (.cons (.v 0) (.cons (.v 1) .nil)) []) .nil))))) .nil
/-- _law_condition: _law_stream, _law_words, _law_way, _law_one -/
def b12 : Ss :=
  .cons (.set 2 (.call 8 (.cons (.v 0) (.cons (.k (.int 6)) .nil)) [])) <|
  .cons (.set 3 (.call 11 (.cons (.v 0) (.cons (.v 1) .nil)) [])) <|
  .cons (.ite (.op .lt (.v 2) (.k (.int 3))) (.cons (.ret (.v 3)) .nil) (.nil)) <|
  .cons (.ite (.op .eq (.v 2) (.k (.int 3))) (.cons (.ret (.tup (.cons (.k (.str [110, 111, 116])) (.cons (.v 3) .nil)))) .nil) (.nil)) <|
  .cons (.ret (.tup (.cons (.ix (.lst true (.cons (.k (.str [97, 110, 100])) (.cons (.k (.str [111, 114])) .nil))) (.op .sub (.v 2) (.k (.int 4)))) (.cons (.v 3) (.cons (.call 11 (.cons (.v 0) (.cons (.v 1) .nil)) []) .nil))))) .nil
/-- _law_rules: _law_script, _law_first, _law_many, _law_words, _law_names, _law_rules_here, _law_k, _law_stream -/
def b13 : Ss :=
  .cons (.set 4 (.lst true (.cons (.k (.str [97])) (.cons (.k (.str [98, 98])) (.cons (.k (.str [97, 98])) (.cons (.k (.str [98, 97])) (.cons (.k (.str [99])) (.cons (.k (.str [98])) (.cons (.k (.str [97, 97])) (.cons (.k (.str [100])) (.cons (.k (.str [101])) (.cons (.k (.str [102])) (.cons (.k (.str [103])) (.cons (.k (.str [104])) .nil)))))))))))))) <|
  .cons (.set 5 (.lst false (.nil))) <|
  .cons (.for_ (.one 6) (.range (.cons (.v 2) .nil)) (.cons (.set 7 (.lst false (.cons (.call 5 (.cons (.v 0) (.cons (.op .add (.v 1) (.v 6)) .nil)) []) (.cons (.op .mod (.op .fdiv (.call 5 (.cons (.v 0) (.cons (.k (.int 0)) .nil)) []) (.k (.int 7))) (.k (.int 2))) .nil)))) <|
  .cons (.ex (.meth true (.v 5) .append (.cons (.tup (.cons (.ix (.v 4) (.v 6)) (.cons (.call 12 (.cons (.v 7) (.cons (.v 3) .nil)) []) .nil))) .nil))) .nil)) <|
  .cons (.ret (.v 5)) .nil
/-- _law_asks: _law_thing, _law_found, _law_part -/
def b14 : Ss :=
  .cons (.ite (.or_ (.op .eq (.ix (.v 0) (.k (.int 0))) (.k (.str [98, 97, 99, 107]))) (.op .eq (.ix (.v 0) (.k (.int 0))) (.k (.str [97, 103, 111])))) (.cons (.ret (.lst true (.cons (.tup (.cons (.k (.str [98, 97, 99, 107])) (.cons (.ix (.v 0) (.k (.int 1))) .nil))) .nil))) .nil) (.nil)) <|
  .cons (.ite (.or_ (.op .eq (.ix (.v 0) (.k (.int 0))) (.k (.str [111, 110]))) (.op .eq (.ix (.v 0) (.k (.int 0))) (.k (.str [117, 110, 116, 105, 108])))) (.cons (.ret (.lst true (.cons (.tup (.cons (.k (.str [111, 110])) (.cons (.ix (.v 0) (.k (.int 1))) .nil))) .nil))) .nil) (.nil)) <|
  .cons (.ite (.op .eq (.ix (.v 0) (.k (.int 0))) (.k (.str [97, 116]))) (.cons (.ret (.lst true (.cons (.v 0) .nil))) .nil) (.nil)) <|
  .cons (.set 1 (.lst false (.nil))) <|
  .cons (.for_ (.one 2) (.val (.sl true (.v 0) (.cons (.k (.int 1)) .nil) (.nil))) (.cons (.ite (.and_ (.isi (.v 2) [.tup]) (.isi (.ix (.v 2) (.k (.int 0))) [.str])) (.cons (.ex (.meth true (.v 1) .extend (.cons (.call 14 (.cons (.v 2) .nil) []) .nil))) .nil) (.nil)) .nil)) <|
  .cons (.ret (.v 1)) .nil
/-- law: _law_script, _law_words, _law_rules_here, _law_due, _law_cell, _law_handed, _law_found, _law_name, _law_condition_here, _law_some, _law_k, _law_ask -/
def b15 : Ss :=
  .cons (.set 1 (.lst true (.nil))) <|
  .cons (.ite (.op .eq (.op .mod (.call 5 (.cons (.v 0) (.cons (.k (.int 0)) .nil)) []) (.k (.int 2))) (.k (.int 1))) (.cons (.set 1 (.lc true (.one 10) (.range (.cons (.k (.int 3)) .nil)) (.k (.bl true)) (.call 7 (.cons (.call 5 (.cons (.v 0) (.cons (.k (.int 0)) .nil)) []) (.cons (.v 10) .nil)) []))) .nil) (.nil)) <|
  .cons (.set 2 (.lst false (.nil))) <|
  .cons (.set 3 (.k (.int 0))) <|
  .cons (.for_ (.one 4) (.val (.sl true (.v 0) (.cons (.k (.int 1)) .nil) (.cons (.k (.int 13)) .nil))) (.cons (.set 7 (.op .add (.ix (.k (.str [97, 98, 99, 100, 101, 102, 103, 104, 105, 106, 107, 108])) (.bi true .len (.cons (.v 2) .nil))) (.k (.str [120])))) <|
  .cons (.set 8 (.call 12 (.cons (.lst false (.cons (.v 4) (.cons (.op .mod (.op .fdiv (.call 5 (.cons (.v 0) (.cons (.k (.int 0)) .nil)) []) (.k (.int 7))) (.k (.int 2))) .nil))) (.cons (.v 1) .nil)) [])) <|
  .cons (.ex (.meth true (.v 2) .append (.cons (.tup (.cons (.v 7) (.cons (.v 8) .nil))) .nil))) <|
  .cons (.set 9 (.call 14 (.cons (.v 8) .nil) [])) <|
  .cons (.ite (.op .ne (.lc true (.one 11) (.val (.v 9)) (.op .eq (.ix (.v 11) (.k (.int 0))) (.k (.str [97, 116]))) (.v 11)) (.lst true (.nil))) (.cons (.set 3 (.k (.non))) .nil) (.cons (.ite (.op .isn (.v 3) (.k (.non))) (.cons (.set 3 (.op .add (.v 3) (.bi true .max (.cons (.op .add (.lst true (.cons (.k (.int 0)) .nil)) (.lc true (.one 11) (.val (.v 9)) (.k (.bl true)) (.ix (.v 11) (.k (.int 1))))) .nil)))) .nil) (.nil)) .nil)) .nil)) <|
  .cons (.set 5 (.bi true .list (.cons (.v 2) .nil))) <|
  .cons (.set 6 (.call 4 (.cons (.v 5) .nil) [])) <|
  .cons (.ite (.or_ (.op .ne (.v 5) (.v 2)) (.op .ne (.call 4 (.cons (.lst true (.nil)) .nil) []) (.k (.int 0)))) (.cons (.ret (.k (.bl false))) .nil) (.nil)) <|
  .cons (.ite (.op .is_ (.v 3) (.k (.non))) (.cons (.ret (.op .is_ (.v 6) (.k (.non)))) .nil) (.nil)) <|
  .cons (.ret (.and_ (.isi (.v 6) [.int]) (.and_ (.not_ (.isi (.v 6) [.bool])) (.op .eq (.v 6) (.v 3))))) .nil
def fns : List FnD := [⟨1, 1, b0, .raw⟩, ⟨2, 3, b1, .raw⟩, ⟨1, 5, b2, .pure⟩, ⟨1, 3, b3, .raw⟩, ⟨1, 5, b4, .raw⟩, ⟨2, 2, b5, .raw⟩, ⟨2, 4, b6, .raw⟩, ⟨2, 7, b7, .raw⟩, ⟨2, 3, b8, .raw⟩, ⟨2, 4, b9, .raw⟩, ⟨2, 5, b10, .raw⟩, ⟨2, 4, b11, .raw⟩, ⟨2, 4, b12, .raw⟩, ⟨4, 8, b13, .pure⟩, ⟨1, 3, b14, .pure⟩, ⟨1, 12, b15, .pure⟩]
def xt : List ((Nat × Nat) × Bool) := []
def exf : List (Nat × Nat) := []
abbrev g : Gd := ⟨fns, fun a b => xt.lookup (a, b), fun n => exf.lookup n⟩
theorem fn_at (i : Nat) : g.fns[i]? = fns[i]? := rfl
end K72

set_option linter.all false
set_option maxRecDepth 100000
set_option maxHeartbeats 0
namespace K72
open PySem PySem.Spec PyProof.Rows L2 Px
abbrev P : Program := PySem.Challenge.pw_weather_k72_reach
def top (i : Nat) : Stmt := P.main.body.getD i (.Pass ⟨0, 0, 0, 0⟩)
def inC (i j : Nat) : Stmt := L2.inClass (top i) j
def d0 : TD := ⟨"parts_of", none, top 3, ["thing"], 1, []⟩
def d1 : TD := ⟨"collect", none, top 4, ["thing", "found", "part"], 2, []⟩
def d2 : TD := ⟨"asked_by", none, top 5, ["condition", "found", "some", "kind", "one"], 1, []⟩
def d3 : TD := ⟨"reach_of", none, top 7, ["condition", "found", "ask"], 1, []⟩
def d4 : TD := ⟨"reach", none, top 8, ["rules", "found", "name", "condition", "here"], 1, []⟩
def d5 : TD := ⟨"_law_cell_at", none, top 10, ["_law_script", "_law_k"], 2, []⟩
def d6 : TD := ⟨"_law_low", none, top 11, ["_law_top", "_law_bottom", "_law_one", "_law_other"], 2, []⟩
def d7 : TD := ⟨"_law_word", none, top 12, ["_law_cell", "_law_k", "_law_letters", "_law_stride", "_law_pair", "_law_more", "_law_j"], 2, []⟩
def d8 : TD := ⟨"_law_pick", none, top 13, ["_law_stream", "_law_many", "_law_found"], 2, []⟩
def d9 : TD := ⟨"_law_term", none, top 14, ["_law_stream", "_law_words", "_law_way", "_law_far"], 2, []⟩
def d10 : TD := ⟨"_law_sum", none, top 15, ["_law_stream", "_law_words", "_law_way", "_law_one", "_law_other"], 2, []⟩
def d11 : TD := ⟨"_law_compare", none, top 16, ["_law_stream", "_law_words", "_law_sign", "_law_one"], 2, []⟩
def d12 : TD := ⟨"_law_condition", none, top 17, ["_law_stream", "_law_words", "_law_way", "_law_one"], 2, []⟩
def d13 : TD := ⟨"_law_rules", none, top 18, ["_law_script", "_law_first", "_law_many", "_law_words", "_law_names", "_law_rules_here", "_law_k", "_law_stream"], 4, []⟩
def d14 : TD := ⟨"_law_asks", none, top 19, ["_law_thing", "_law_found", "_law_part"], 1, []⟩
def d15 : TD := ⟨"law", none, top 20, ["_law_script", "_law_words", "_law_rules_here", "_law_due", "_law_cell", "_law_handed", "_law_found", "_law_name", "_law_condition_here", "_law_some", "_law_k", "_law_ask"], 1, []⟩
def T : List TD := [d0, d1, d2, d3, d4, d5, d6, d7, d8, d9, d10, d11, d12, d13, d14, d15]
def I : List (Nat × Nat × TD) := []
def tab : Tab := ⟨T, fns, [], [("HERE", .tup [.str [104, 101, 114, 101]])], ["abs", "bool", "int", "isinstance", "len", "list", "max", "range", "sorted", "str", "tuple"], [], xt, [], I, [], [], [], [], true, [("FAR", kd_FAR)]⟩
theorem bn0 : (d0).Bnd := ⟨fun _ _ _ _ _ _ _ us hl => by
  have hl : us.length = 1 := hl
  match us, hl with
  | [_], _ => rfl, fun h => absurd rfl h⟩
theorem bn1 : (d1).Bnd := ⟨fun _ _ _ _ _ _ _ us hl => by
  have hl : us.length = 2 := hl
  match us, hl with
  | [_, _], _ => rfl, fun h => absurd rfl h⟩
theorem bn2 : (d2).Bnd := ⟨fun _ _ _ _ _ _ _ us hl => by
  have hl : us.length = 1 := hl
  match us, hl with
  | [_], _ => rfl, fun h => absurd rfl h⟩
theorem bn3 : (d3).Bnd := ⟨fun _ _ _ _ _ _ _ us hl => by
  have hl : us.length = 1 := hl
  match us, hl with
  | [_], _ => rfl, fun h => absurd rfl h⟩
theorem bn4 : (d4).Bnd := ⟨fun _ _ _ _ _ _ _ us hl => by
  have hl : us.length = 1 := hl
  match us, hl with
  | [_], _ => rfl, fun h => absurd rfl h⟩
theorem bn5 : (d5).Bnd := ⟨fun _ _ _ _ _ _ _ us hl => by
  have hl : us.length = 2 := hl
  match us, hl with
  | [_, _], _ => rfl, fun h => absurd rfl h⟩
theorem bn6 : (d6).Bnd := ⟨fun _ _ _ _ _ _ _ us hl => by
  have hl : us.length = 2 := hl
  match us, hl with
  | [_, _], _ => rfl, fun h => absurd rfl h⟩
theorem bn7 : (d7).Bnd := ⟨fun _ _ _ _ _ _ _ us hl => by
  have hl : us.length = 2 := hl
  match us, hl with
  | [_, _], _ => rfl, fun h => absurd rfl h⟩
theorem bn8 : (d8).Bnd := ⟨fun _ _ _ _ _ _ _ us hl => by
  have hl : us.length = 2 := hl
  match us, hl with
  | [_, _], _ => rfl, fun h => absurd rfl h⟩
theorem bn9 : (d9).Bnd := ⟨fun _ _ _ _ _ _ _ us hl => by
  have hl : us.length = 2 := hl
  match us, hl with
  | [_, _], _ => rfl, fun h => absurd rfl h⟩
theorem bn10 : (d10).Bnd := ⟨fun _ _ _ _ _ _ _ us hl => by
  have hl : us.length = 2 := hl
  match us, hl with
  | [_, _], _ => rfl, fun h => absurd rfl h⟩
theorem bn11 : (d11).Bnd := ⟨fun _ _ _ _ _ _ _ us hl => by
  have hl : us.length = 2 := hl
  match us, hl with
  | [_, _], _ => rfl, fun h => absurd rfl h⟩
theorem bn12 : (d12).Bnd := ⟨fun _ _ _ _ _ _ _ us hl => by
  have hl : us.length = 2 := hl
  match us, hl with
  | [_, _], _ => rfl, fun h => absurd rfl h⟩
theorem bn13 : (d13).Bnd := ⟨fun _ _ _ _ _ _ _ us hl => by
  have hl : us.length = 4 := hl
  match us, hl with
  | [_, _, _, _], _ => rfl, fun h => absurd rfl h⟩
theorem bn14 : (d14).Bnd := ⟨fun _ _ _ _ _ _ _ us hl => by
  have hl : us.length = 1 := hl
  match us, hl with
  | [_], _ => rfl, fun h => absurd rfl h⟩
theorem bn15 : (d15).Bnd := ⟨fun _ _ _ _ _ _ _ us hl => by
  have hl : us.length = 1 := hl
  match us, hl with
  | [_], _ => rfl, fun h => absurd rfl h⟩
theorem bndI : ∀ p ∈ tab.I, p.2.2.Bnd := fun p hp => by
  have hp : p ∈ I := hp
  unfold I at hp
  cases hp
theorem good : Good2 tab := ⟨by kernel_rfl, (fun f d e => by
  match f, e with
  | 0, e => cases e; exact bn0
  | 1, e => cases e; exact bn1
  | 2, e => cases e; exact bn2
  | 3, e => cases e; exact bn3
  | 4, e => cases e; exact bn4
  | 5, e => cases e; exact bn5
  | 6, e => cases e; exact bn6
  | 7, e => cases e; exact bn7
  | 8, e => cases e; exact bn8
  | 9, e => cases e; exact bn9
  | 10, e => cases e; exact bn10
  | 11, e => cases e; exact bn11
  | 12, e => cases e; exact bn12
  | 13, e => cases e; exact bn13
  | 14, e => cases e; exact bn14
  | 15, e => cases e; exact bn15
  | f + 16, e => cases e), by kernel_rfl, bndI⟩
def loose0 : List Str := ["parts_of", "collect", "asked_by", "reach_of", "reach", "_law_cell_at", "_law_low", "_law_word", "_law_pick", "_law_term", "_law_sum", "_law_compare", "_law_condition", "_law_rules", "_law_asks", "FAR", "HERE"]
def loose : List Str := loose0
abbrev R : PySem.W.OpenRow := PySem.W.OpenLaw.row PySem.Challenge.rw_weather_k72_reach
abbrev hk : PySem.W.Hook := hookP 5 tab
def ob (s : PySem.W.SharedT) : AlP := obsPG 5 tab (HandSHeadRun.getT s)
theorem ob_eq (s : PySem.W.SharedT) : ob s = hk.obs s.abs := obsPG_eq (HandSHeadRun.getT_eq s)
theorem run (w : World) : HandSHeadRun.RunEq R (PySem.W.view R.prog [20]) hk ob 2000 loose w := by
  refine PySem.W.byRow2 "special-get-raises" (P := fun w => HandSHeadRun.RunEq R (PySem.W.view R.prog [20]) hk ob 2000 loose w) (fun w os => ?_) (fun w os => ?_) w
  · kernel_rfl
  · kernel_rfl
def iLaw : Nat := 15
def atLaw : Nat := 20
end K72

set_option linter.all false
set_option maxRecDepth 100000
set_option maxHeartbeats 0
namespace K72
open PySem Px
theorem c_sp (k : Nat) (ns : List Int) (n : Nat) (s : St) : callF g (k + 1) 5 [.lst (ns.map .int), .int n] s = .ok (.int (cellI ns n)) s := cell_ok (fn_at 5) k ns n s
theorem PK : PickSp g 8 := pick_sp (fn_at 8)
theorem Lo : Low2Sp g 6 := fun k t b s h0 hb => low2_sp (fn_at 6) k s h0 hb
theorem W_sp (k : Nat) (c : Int) {n : Int} (s : St) (h0 : 0 ≤ n) (h1 : n ≤ 1000) : callF g (k + 1) 7 [.int c, .int n] s = .ok (.str (wordL c n)) s := word_sp (fn_at 7) k c s h0 h1
theorem D_sp {ws : List (List Nat)} (hw : WsOk ws) : CondGSp g 12 5 ws 20 := condG_sp (fn_at 12) PK (cmpG_sp (fn_at 11) PK Lo (sumG_sp (fn_at 10) PK Lo (termG_sp (fn_at 9) PK Lo hw)))
theorem A_sp : AskedSp g 2 := asked_sp (fn_at 2) (collect_sp (fn_at 1) (parts_sp (fn_at 0)))
theorem O_sp : ReachOfSp g 3 := reachOf_sp (fn_at 3) A_sp
theorem LA_sp : LawAsksSp g 14 := lawAsks_sp (fn_at 14)
/-! ### the law -/
def Em (A B C D E F G H I J : Option W) (ns : List Int) (ws : List (List Nat)) : Px.Env := [some (.lst (ns.map .int)), some (.lst (ws.map .str)), A, B, C, D, E, F, G, H, I, J]
section
variable {ns : List Int} {ws : List (List Nat)} (k : Nat)
noncomputable abbrev cl := callF g (k + 29)
noncomputable abbrev ev (b : Ss) (e : Px.Env) (s : St) : RS := evSs (callF g (k + 29)) (mkF g (k + 29)) (mtF g) g.xf g.xfl b e s
/-- one cell -/
theorem step (hw : WsOk ws) {rs : List Rl} (hr : rs.length ≤ 11) (o : Option Nat) (c : Int) (X : St) (d5 d6 d7 d8 d9 d10 d11 : Option W) :
    ∃ (r : Rl) (e' : Px.Env) (X' : St), ROk ws r ∧ ev k (lpB (at_ 4 b15)) (Em (some (.ref 0)) (some (oN o)) (some (.int c)) d5 d6 d7 d8 d9 d10 d11 ns ws) (O.lst (rs.map Rl.W) :: X) = .nx e' (O.lst ((rs ++ [r]).map Rl.W) :: X') ∧
      ∃ f5 f6 f7 f8 f9 f10 f11, e' = Em (some (.ref 0)) (some (oN (addO o r.c.reach))) (some (.int c)) f5 f6 f7 f8 f9 f10 f11 ns ws := by
  obtain ⟨nm, hnm⟩ : ∃ nm : List Nat, nm = [([97, 98, 99, 100, 101, 102, 103, 104, 105, 106, 107, 108] : List Nat).getD rs.length 0] ++ [120] := ⟨_, rfl⟩
  have c0 := c_sp (k + 28) ns 0 (O.lst (rs.map Rl.W) :: X)
  generalize hc0 : cellI ns 0 = z at c0
  have bm := fmod_bd (z.fdiv 7) (b := 2) (by decide)
  generalize hm : (z.fdiv 7).fmod 2 = m at bm
  -- the new stream
  obtain ⟨N, hN⟩ : ∃ N : Nat, N = (O.lst (rs.map Rl.W) :: X).length := ⟨_, rfl⟩
  have st0 : stS (O.lst (rs.map Rl.W) :: (X ++ [.lst [.int c, .int m]])) N c m = O.lst (rs.map Rl.W) :: (X ++ [.lst [.int c, .int m]]) := stS_of (by
    rw [hN]
    show (((O.lst (rs.map Rl.W) :: X) ++ [.lst [.int c, .int m]]) : St)[(O.lst (rs.map Rl.W) :: X).length]? = _
    exact at_end)
  obtain ⟨t, c', g1, z1, r1⟩ := D_sp hw (k + 24) c m (O.lst (rs.map Rl.W) :: (X ++ [.lst [.int c, .int m]])) N (by rw [hN]; simp)
  rw [st0] at r1
  have st1 : stS (O.lst (rs.map Rl.W) :: (X ++ [.lst [.int c, .int m]])) N c' m = O.lst (rs.map Rl.W) :: (X ++ [.lst [.int c', .int m]]) := by
    unfold stS
    rw [hN]
    show ((O.lst (rs.map Rl.W) :: X) ++ [O.lst [W.int c, W.int m]]).set (O.lst (rs.map Rl.W) :: X).length _ = _
    rw [set_end]; rfl
  rw [st1] at r1
  have ok1 : ROk ws (Rl.mk nm t) := ⟨g1, z1, by
    intro x hx
    rw [hnm] at hx
    rcases List.mem_append.mp hx with h | h
    · have : x = ([97, 98, 99, 100, 101, 102, 103, 104, 105, 106, 107, 108] : List Nat).getD rs.length 0 := by simpa using h
      rw [this]
      exact getD_mem (fun x => x < 128) (by decide) (by decide)
    · have : x = 120 := by simpa using h
      omega⟩
  have la := LA_sp (k + 28 - t.sz) (.cd t) (O.lst ((rs ++ [(Rl.mk nm t)]).map Rl.W) :: (X ++ [.lst [.int c', .int m]])) (by show t.sz ≤ 100000; omega) (gd_ok hw g1)
  have la : callF g (k + 29) 14 [t.W] (O.lst ((rs ++ [(Rl.mk nm t)]).map Rl.W) :: (X ++ [.lst [.int c', .int m]])) = .ok (.lst (t.asks.map Ask.W)) (O.lst ((rs ++ [(Rl.mk nm t)]).map Rl.W) :: (X ++ [.lst [.int c', .int m]])) := by
    have e : k + 28 - t.sz + (Th.cd t).sz + 1 = k + 29 := by show k + 28 - t.sz + t.sz + 1 = _; omega
    rw [e] at la
    exact la
  refine ⟨(Rl.mk nm t), Em (some (.ref 0)) (some (oN (addO o t.reach))) (some (.int c)) d5 d6 (some (.str nm)) (some t.W) (some (.lst (t.asks.map Ask.W))) d10 d11 ns ws, X ++ [.lst [.int c', .int m]], ok1, ?_, d5, d6, some (.str nm), some t.W, some (.lst (t.asks.map Ask.W)), d10, d11, rfl⟩
  generalize hS2 : (X ++ [O.lst [.int c', .int m]] : St) = X2 at *
  have lnb : lpB (at_ 4 b15) = .cons (at_ 0 (lpB (at_ 4 b15))) (.cons (at_ 1 (lpB (at_ 4 b15))) (.cons (at_ 2 (lpB (at_ 4 b15))) (.cons (at_ 3 (lpB (at_ 4 b15))) (tl 4 (lpB (at_ 4 b15)))))) := rfl
  have q0 : evS (callF g (k + 29)) (mkF g (k + 29)) (mtF g) g.xf g.xfl (at_ 0 (lpB (at_ 4 b15))) (Em (some (.ref 0)) (some (oN o)) (some (.int c)) d5 d6 d7 d8 d9 d10 d11 ns ws) (O.lst (rs.map Rl.W) :: X) = .nx (Em (some (.ref 0)) (some (oN o)) (some (.int c)) d5 d6 (some (.str nm)) d8 d9 d10 d11 ns ws) (O.lst (rs.map Rl.W) :: X) := by
    have l0 : biW true .len [.ref 0] (O.lst (rs.map Rl.W) :: X) = .ok (.int rs.length) (O.lst (rs.map Rl.W) :: X) := by
      show R.ok (W.int (rs.map Rl.W).length) _ = _
      rw [List.length_map]
    have i0 : ixW (O.lst (rs.map Rl.W) :: X) (.str [97, 98, 99, 100, 101, 102, 103, 104, 105, 106, 107, 108]) (.int rs.length) = .ok (.str [([97, 98, 99, 100, 101, 102, 103, 104, 105, 106, 107, 108] : List Nat).getD rs.length 0]) (O.lst (rs.map Rl.W) :: X) := by
      have := ixS (s := O.lst (rs.map Rl.W) :: X) (l := [97, 98, 99, 100, 101, 102, 103, 104, 105, 106, 107, 108]) (i := rs.length) (by omega) (by simp; omega) (by decide)
      simpa using this
    have a0 := addSS (s := O.lst (rs.map Rl.W) :: X) (a := [([97, 98, 99, 100, 101, 102, 103, 104, 105, 106, 107, 108] : List Nat).getD rs.length 0]) (b := [120]) (by show _ ≤ 16777216; simp)
    rw [← hnm] at a0
    generalize [([97, 98, 99, 100, 101, 102, 103, 104, 105, 106, 107, 108] : List Nat).getD rs.length 0] = nn at *
    simp [lpB, at_, b15, Em, l0, i0, a0]
  have q1 : evS (callF g (k + 29)) (mkF g (k + 29)) (mtF g) g.xf g.xfl (at_ 1 (lpB (at_ 4 b15))) (Em (some (.ref 0)) (some (oN o)) (some (.int c)) d5 d6 (some (.str nm)) d8 d9 d10 d11 ns ws) (O.lst (rs.map Rl.W) :: X) = .nx (Em (some (.ref 0)) (some (oN o)) (some (.int c)) d5 d6 (some (.str nm)) (some t.W) d9 d10 d11 ns ws) (O.lst (rs.map Rl.W) :: X2) := by
    have dv : opDiv (O.lst (rs.map Rl.W) :: X) (.int z) (.int 7) = .ok (.int (z.fdiv 7)) (O.lst (rs.map Rl.W) :: X) := divS (by decide) (by decide)
    have mo : opMod (O.lst (rs.map Rl.W) :: X) (.int (z.fdiv 7)) (.int 2) = .ok (.int m) (O.lst (rs.map Rl.W) :: X) := by rw [← hm]; exact modS (by decide)
    have c0' : callF g (k + 29) 5 [.lst (ns.map .int), .int 0] (O.lst (rs.map Rl.W) :: X) = .ok (.int z) (O.lst (rs.map Rl.W) :: X) := c0
    have r1' : callF g (k + 29) 12 [.ref (X.length + 1), .lst (ws.map .str)] (O.lst (rs.map Rl.W) :: (X ++ [.lst [.int c, .int m]])) = .ok t.W (O.lst (rs.map Rl.W) :: X2) := by rw [hN] at r1; exact r1
    simp [lpB, at_, b15, Em, c0', dv, mo, r1']
  have q2 : evS (callF g (k + 29)) (mkF g (k + 29)) (mtF g) g.xf g.xfl (at_ 2 (lpB (at_ 4 b15))) (Em (some (.ref 0)) (some (oN o)) (some (.int c)) d5 d6 (some (.str nm)) (some t.W) d9 d10 d11 ns ws) (O.lst (rs.map Rl.W) :: X2) = .nx (Em (some (.ref 0)) (some (oN o)) (some (.int c)) d5 d6 (some (.str nm)) (some t.W) d9 d10 d11 ns ws) (O.lst ((rs ++ [(Rl.mk nm t)]).map Rl.W) :: X2) := by
    have ap : mAppend (O.lst (rs.map Rl.W) :: X2) (.ref 0) [.tup [.str nm, t.W]] = .ok .non (O.lst ((rs ++ [(Rl.mk nm t)]).map Rl.W) :: X2) := by
      rw [append_ok (l := rs.map Rl.W) rfl (by rw [List.length_map]; show _ < 16777216; omega), List.map_append]; rfl
    simp [lpB, at_, b15, Em, recv, mok, methW, ap]
  generalize hS3 : (O.lst ((rs ++ [(Rl.mk nm t)]).map Rl.W) :: X2 : St) = S3 at *
  have q3 : evS (callF g (k + 29)) (mkF g (k + 29)) (mtF g) g.xf g.xfl (at_ 3 (lpB (at_ 4 b15))) (Em (some (.ref 0)) (some (oN o)) (some (.int c)) d5 d6 (some (.str nm)) (some t.W) d9 d10 d11 ns ws) S3 = .nx (Em (some (.ref 0)) (some (oN o)) (some (.int c)) d5 d6 (some (.str nm)) (some t.W) (some (.lst (t.asks.map Ask.W))) d10 d11 ns ws) S3 := by
    simp [lpB, at_, b15, Em, la]
  show evSs _ _ _ _ _ (lpB (at_ 4 b15)) _ _ = _
  rw [lnb]
  rw [ss_step q0, ss_step q1, ss_step q2, ss_step q3]
  -- the sum
  have al := t.asks_len
  have lc1 := lcL_map (chk := fun _ => True) (tg := .one 11) (c := evE (callF g (k + 29)) (mkF g (k + 29)) (mtF g) (.op .eq (.ix (.v 11) (.k (.int 0))) (.k (.str [97, 116])))) (e := evE (callF g (k + 29)) (mkF g (k + 29)) (mtF g) (.v 11))
    (env := Em (some (.ref 0)) (some (oN o)) (some (.int c)) d5 d6 (some (.str nm)) (some t.W) (some (.lst (t.asks.map Ask.W))) d10 d11 ns ws) (s := S3) (p := isAtW) (f := fun w => w) trivial (t.asks.map Ask.W) [] (by rw [List.length_map]; show 0 + t.asks.length ≤ 16777216; omega) (fun x hx => by
      obtain ⟨a, _, rfl⟩ := List.mem_map.mp hx
      refine ⟨_, rfl, ?_, fun _ => ?_⟩
      · cases a <;> simp [Ask.W, Em, isAtW]
      · simp [Em])
  rw [filt_at, List.map_id', List.nil_append] at lc1
  have lc2 := lcL_all (chk := fun _ => True) (tg := .one 11) (c := evE (callF g (k + 29)) (mkF g (k + 29)) (mtF g) (.k (.bl true))) (e := evE (callF g (k + 29)) (mkF g (k + 29)) (mtF g) (.ix (.v 11) (.k (.int 1))))
    (env := Em (some (.ref 0)) (some (oN o)) (some (.int c)) d5 d6 (some (.str nm)) (some t.W) (some (.lst (t.asks.map Ask.W))) d10 d11 ns ws) (s := S3) (f := sndW) trivial (t.asks.map Ask.W) (by rw [List.length_map]; show t.asks.length ≤ 16777216; omega) (fun x hx => by
      obtain ⟨a, _, rfl⟩ := List.mem_map.mp hx
      refine ⟨_, rfl, by simp, ?_⟩
      cases a <;> simp [Ask.W, Em, sndW])
  have i1 : evIt (callF g (k + 29)) (mkF g (k + 29)) (mtF g) (.val (.v 9)) (Em (some (.ref 0)) (some (oN o)) (some (.int c)) d5 d6 (some (.str nm)) (some t.W) (some (.lst (t.asks.map Ask.W))) d10 d11 ns ws) S3 = .ok ⟨t.asks.map Ask.W, fun _ => True⟩ S3 := it_val (by simp [Em]) walk_lst
  have v1 : evE (callF g (k + 29)) (mkF g (k + 29)) (mtF g) (.lc true (.one 11) (.val (.v 9)) (.op .eq (.ix (.v 11) (.k (.int 0))) (.k (.str [97, 116]))) (.v 11)) (Em (some (.ref 0)) (some (oN o)) (some (.int c)) d5 d6 (some (.str nm)) (some t.W) (some (.lst (t.asks.map Ask.W))) d10 d11 ns ws) S3 = .ok (.lst ((t.asks.filter isAt).map Ask.W)) S3 := by
    rw [r_lc, i1, R.bind_ok]
    show (lcL _ _ _ _ _ _ _ _).bind _ = _
    rw [lc1]; rfl
  have v2 : evE (callF g (k + 29)) (mkF g (k + 29)) (mtF g) (.lc true (.one 11) (.val (.v 9)) (.k (.bl true)) (.ix (.v 11) (.k (.int 1)))) (Em (some (.ref 0)) (some (oN o)) (some (.int c)) d5 d6 (some (.str nm)) (some t.W) (some (.lst (t.asks.map Ask.W))) d10 d11 ns ws) S3 = .ok (.lst ((t.asks.map Ask.W).map sndW)) S3 := by
    rw [r_lc, i1, R.bind_ok]
    show (lcL _ _ _ _ _ _ _ _).bind _ = _
    rw [lc2]; rfl
  have b4 : tl 4 (lpB (at_ 4 b15)) = .cons (.ite (.op .ne (.lc true (.one 11) (.val (.v 9)) (.op .eq (.ix (.v 11) (.k (.int 0))) (.k (.str [97, 116]))) (.v 11)) (.lst true (.nil))) (.cons (.set 3 (.k (.non))) .nil) (.cons (.ite (.op .isn (.v 3) (.k (.non))) (.cons (.set 3 (.op .add (.v 3) (.bi true .max (.cons (.op .add (.lst true (.cons (.k (.int 0)) .nil)) (.lc true (.one 11) (.val (.v 9)) (.k (.bl true)) (.ix (.v 11) (.k (.int 1))))) .nil)))) .nil) (.nil)) .nil)) .nil := rfl
  rw [b4]
  generalize E.lc true (.one 11) (.val (.v 9)) (.op .eq (.ix (.v 11) (.k (.int 0))) (.k (.str [97, 116]))) (.v 11) = L1 at *
  generalize E.lc true (.one 11) (.val (.v 9)) (.k (.bl true)) (.ix (.v 11) (.k (.int 1))) = L2 at *
  have okA : ∀ a ∈ t.asks, a.ok := gd_ok hw g1
  have en : eqR S3 (.lst ((t.asks.filter isAt).map Ask.W)) (.lst []) = some (decide (t.asks.filter isAt = [])) := by
    rw [eqR_lst (asks_datL (d := 58) fun a ha => okA a (List.mem_filter.mp ha).1) (by decide)]
    cases t.asks.filter isAt <;> simp [eqvL]
  show evSs _ _ _ _ _ _ _ _ = RS.nx _ _
  have en0 : eqR S3 (.lst []) (.lst []) = some true := by rw [eqR_lst (by decide) (by decide)]; rfl
  by_cases hat : t.asks.filter isAt = []
  · have na : t.asks.any isAt = false := by
      rw [List.any_eq_false]
      intro a ha hh
      have : a ∈ t.asks.filter isAt := List.mem_filter.mpr ⟨ha, hh⟩
      rw [hat] at this; cases this
    have er : t.reach = some (mxA t.asks 0) := by unfold Cd.reach; rw [na]; rfl
    rw [er]
    have intz : ((t.asks.map Ask.W).map sndW) = (t.asks.map fun a => (numA a : Int)).map W.int := by
      rw [List.map_map, List.map_map]
      refine List.map_congr_left fun a ha => ?_
      cases a with
      | back n => rfl
      | on n => rfl
      | at_ w => rw [List.any_eq_false] at na; exact absurd rfl (na _ ha)
    rw [intz] at v2
    have mx : biW true .max [.lst (.int 0 :: (t.asks.map fun a => (numA a : Int)).map W.int)] S3 = .ok (.int (mxA t.asks 0 : Nat)) S3 := by
      have e : allAs asInt (W.int 0 :: (t.asks.map fun a => (numA a : Int)).map W.int) = some (0 :: t.asks.map fun a => (numA a : Int)) := asInts (0 :: t.asks.map fun a => (numA a : Int))
      show (match allAs asInt (W.int 0 :: (t.asks.map fun a => (numA a : Int)).map W.int) with
          | some (n :: ns) => R.ok (W.int (maxI n ns)) S3
          | _ => .bad) = _
      rw [e]
      show R.ok (W.int (maxI (0 : Nat) _)) S3 = _
      rw [maxI_mx]
    have ad : opAdd S3 (.lst [.int 0]) (.lst ((t.asks.map fun a => (numA a : Int)).map W.int)) = .ok (.lst (.int 0 :: (t.asks.map fun a => (numA a : Int)).map W.int)) S3 := by
      show (if [W.int 0].length + ((t.asks.map fun a => (numA a : Int)).map W.int).length ≤ line then R.ok (W.lst ([W.int 0] ++ _)) S3 else .bad) = _
      exact if_pos (by simp; show _ ≤ 16777216; omega)
    generalize (t.asks.map fun a => (numA a : Int)).map W.int = IL at *
    cases o with
    | none =>
      simp only [Em, oN] at v1 v2
      simp [Em, v1, en0, hat, oN, addO]
    | some n =>
      simp only [Em, oN] at v1 v2
      have e2 : ((n + mxA t.asks 0 : Nat) : Int) = (n : Int) + (mxA t.asks 0 : Nat) := by omega
      simp [Em, v1, en0, hat, oN, addO, v2, ad, mx, e2]
  · have ya : t.asks.any isAt = true := by
      cases e : t.asks.filter isAt with
      | nil => exact absurd e hat
      | cons a l =>
        have := List.mem_filter.mp (show a ∈ t.asks.filter isAt by rw [e]; exact List.mem_cons_self)
        exact List.any_eq_true.mpr ⟨a, this.1, this.2⟩
    have er : t.reach = none := by unfold Cd.reach; rw [ya]; rfl
    rw [er]
    cases o <;> (simp only [Em, oN] at v1 v2; simp [Em, v1, en, hat, oN, addO])
/-- the cells -/
theorem loop (hw : WsOk ws) : ∀ (cs : List Int) (rs : List Rl) (o : Option Nat) (X : St) (d4 d5 d6 d7 d8 d9 d10 d11 : Option W), rs.length + cs.length ≤ 12 → (∀ r ∈ rs, ROk ws r) → rs.foldl (fun o r => addO o r.c.reach) (some 0) = o →
    ∃ (rs' : List Rl) (X' : St) (f4 f5 f6 f7 f8 f9 f10 f11 : Option W), (∀ r ∈ rs', ROk ws r) ∧ rs'.length ≤ 12 ∧ forL (fun _ => True) (.one 4) (evSs (callF g (k + 29)) (mkF g (k + 29)) (mtF g) g.xf g.xfl (lpB (at_ 4 b15))) (cs.map W.int) (Em (some (.ref 0)) (some (oN o)) d4 d5 d6 d7 d8 d9 d10 d11 ns ws) (O.lst (rs.map Rl.W) :: X) = .nx (Em (some (.ref 0)) (some (oN (reachR rs'))) f4 f5 f6 f7 f8 f9 f10 f11 ns ws) (O.lst (rs'.map Rl.W) :: X') := by
  intro cs
  induction cs with
  | nil =>
    intro rs o X d4 d5 d6 d7 d8 d9 d10 d11 hl hr ho
    refine ⟨rs, X, d4, d5, d6, d7, d8, d9, d10, d11, hr, by simpa using hl, ?_⟩
    rw [List.map_nil, forL_end trivial]
    unfold reachR
    rw [ho]
  | cons c cs ih =>
    intro rs o X d4 d5 d6 d7 d8 d9 d10 d11 hl hr ho
    rw [List.length_cons] at hl
    obtain ⟨r, e', X', r1, e1, f5, f6, f7, f8, f9, f10, f11, e2⟩ := step k hw (rs := rs) (by omega) o c X d5 d6 d7 d8 d9 d10 d11
    subst e2
    obtain ⟨rs', X2, h4, h5, h6, h7, h8, h9, h10, h11, a1, a2, a3⟩ := ih (rs ++ [r]) (addO o r.c.reach) X' (some (.int c)) f5 f6 f7 f8 f9 f10 f11 (by rw [List.length_append]; simp; omega) (fun q hq => (List.mem_append.mp hq).elim (hr q) fun h => by
      have : q = r := by simpa using h
      rw [this]; exact r1) (by rw [List.foldl_append, ho]; rfl)
    refine ⟨rs', X2, h4, h5, h6, h7, h8, h9, h10, h11, a1, a2, ?_⟩
    rw [List.map_cons, forL_nx trivial rfl e1]
    exact a3
theorem wordsOk (z : Int) : WsOk [wordL z 0, wordL z 1, wordL z 2] := ⟨by simp, fun w hw x hx => by
  simp only [List.mem_cons, List.not_mem_nil, or_false] at hw
  rcases hw with e | e | e <;> subst e <;> exact wordL_ok _ _ x hx⟩
end
theorem law (k : Nat) (ns : List Int) (hns : ns.length ≤ 63) : callF g (k + 30) 15 [.lst (ns.map .int)] [] = .ok (.bl true) [] := by
  rw [call_eq (fn_at 15) rfl]
  have c0 := c_sp (k + 28) ns 0 []
  generalize hz : cellI ns 0 = z at c0
  have c0 : callF g (k + 29) 5 [.lst (ns.map .int), .int 0] [] = .ok (.int z) [] := c0
  -- the masts
  obtain ⟨ws, hw, e1⟩ : ∃ (ws : List (List Nat)), WsOk ws ∧ evSs (callF g (k + 29)) (mkF g (k + 29)) (mtF g) g.xf g.xfl b15 [some (.lst (ns.map .int)), none, none, none, none, none, none, none, none, none, none, none] [] = evSs (callF g (k + 29)) (mkF g (k + 29)) (mtF g) g.xf g.xfl (tl 2 b15) (Em none none none none none none none none none none ns ws) [] := by
    have b0 : b15 = .cons (.set 1 (.lst true (.nil))) (.cons (at_ 1 b15) (tl 2 b15)) := rfl
    have mo : opMod ([] : St) (.int z) (.int 2) = .ok (.int (z.fmod 2)) [] := modS (by decide)
    by_cases h : z.fmod 2 = 1
    · refine ⟨_, wordsOk z, ?_⟩
      rw [b0, set_step (w := .lst []) (s2 := []) (by simp)]
      refine ss_step ?_
      have w0 := W_sp (k + 28) z (n := 0) [] (by decide) (by decide)
      have w1 := W_sp (k + 28) z (n := 1) [] (by decide) (by decide)
      have w2 := W_sp (k + 28) z (n := 2) [] (by decide) (by decide)
      have hh : evE (callF g (k + 29)) (mkF g (k + 29)) (mtF g) (.lc true (.one 10) (.range (.cons (.k (.int 3)) .nil)) (.k (.bl true)) (.call 7 (.cons (.call 5 (.cons (.v 0) (.cons (.k (.int 0)) .nil)) []) (.cons (.v 10) .nil)) [])) [some (.lst (ns.map .int)), some (.lst []), none, none, none, none, none, none, none, none, none, none] [] = .ok (.lst [.str (wordL z 0), .str (wordL z 1), .str (wordL z 2)]) [] :=
        words3 (iC := 5) (iW := 7) (x := 10) (k + 29) (ns := ns) (z := z) (s := []) c0 w0 w1 w2 _ rfl (by simp) (by decide)
      have a1 : at_ 1 b15 = .ite (.op .eq (.op .mod (.call 5 (.cons (.v 0) (.cons (.k (.int 0)) .nil)) []) (.k (.int 2))) (.k (.int 1))) (.cons (.set 1 (.lc true (.one 10) (.range (.cons (.k (.int 3)) .nil)) (.k (.bl true)) (.call 7 (.cons (.call 5 (.cons (.v 0) (.cons (.k (.int 0)) .nil)) []) (.cons (.v 10) .nil)) []))) .nil) (.nil) := rfl
      rw [a1]
      generalize E.lc true (.one 10) (.range (.cons (.k (.int 3)) .nil)) (.k (.bl true)) (.call 7 (.cons (.call 5 (.cons (.v 0) (.cons (.k (.int 0)) .nil)) []) (.cons (.v 10) .nil)) []) = L1 at *
      simp [c0, mo, h, hh, Em]
    · refine ⟨[], ⟨by decide, fun w hw => by cases hw⟩, ?_⟩
      rw [b0, set_step (w := .lst []) (s2 := []) (by simp)]
      refine ss_step ?_
      simp [at_, b15, c0, mo, h, Em]
  -- the rules
  have b2 : tl 2 b15 = .cons (.set 2 (.lst false (.nil))) (.cons (.set 3 (.k (.int 0))) (.cons (.for_ (.one 4) (.val (.sl true (.v 0) (.cons (.k (.int 1)) .nil) (.cons (.k (.int 13)) .nil))) (lpB (at_ 4 b15))) (tl 5 b15))) := rfl
  have e2 : evSs (callF g (k + 29)) (mkF g (k + 29)) (mtF g) g.xf g.xfl (tl 2 b15) (Em none none none none none none none none none none ns ws) [] = evSs (callF g (k + 29)) (mkF g (k + 29)) (mtF g) g.xf g.xfl (.cons (.for_ (.one 4) (.val (.sl true (.v 0) (.cons (.k (.int 1)) .nil) (.cons (.k (.int 13)) .nil))) (lpB (at_ 4 b15))) (tl 5 b15)) (Em (some (.ref 0)) (some (oN (some 0))) none none none none none none none none ns ws) [.lst []] := by
    rw [b2, set_step (w := .ref 0) (s2 := [.lst []]) (by simp)]
    rw [set_step (w := .int 0) (s2 := [.lst []]) (by simp)]
    rfl
  have cl12 : (cut ns (some 1) (some 13)).length ≤ 12 := by
    unfold cut
    rw [List.length_take]
    have e1 : HT.sIx ns.length 0 (some 1) = min 1 ns.length := HT.sIx_nat _ _ 1
    have e2 : HT.sIx ns.length ns.length (some 13) = min 13 ns.length := HT.sIx_nat _ _ 13
    rw [e1, e2]; omega
  obtain ⟨rs, X, f4, f5, f6, f7, f8, f9, f10, f11, a1, a2, a3⟩ := loop k hw (ns := ns) (cut ns (some 1) (some 13)) [] (some 0) [] none none none none none none none none (by simpa using cl12) (fun r hr => by cases hr) rfl
  have it : evIt (callF g (k + 29)) (mkF g (k + 29)) (mtF g) (.val (.sl true (.v 0) (.cons (.k (.int 1)) .nil) (.cons (.k (.int 13)) .nil))) (Em (some (.ref 0)) (some (oN (some 0))) none none none none none none none none ns ws) [.lst []] = .ok ⟨(cut ns (some 1) (some 13)).map W.int, fun _ => True⟩ [.lst []] :=
    it_val (w := .lst ((cut ns (some 1) (some 13)).map W.int)) (by simp [Em, sl_lst, cut_map]) walk_lst
  -- the end
  generalize hS : (O.lst (rs.map Rl.W) :: X : St) = S at *
  have dl : datL 59 (rs.map Rl.W) = true := datL_map fun r hr => (a1 r hr).dat hw (by decide)
  have li : biW true .list [.ref 0] S = .ok (.lst (rs.map Rl.W)) S := by rw [← hS]; rfl
  have rc := reach_sp (fn_at 4) O_sp (k + 5) 20 (rs := rs) S (fun r hr => (a1 r hr).sz) (by decide) (fun r hr => gd_ok hw (a1 r hr).gd)
  have rc : callF g (k + 29) 4 [.lst (rs.map Rl.W)] S = .ok (oN (reachR rs)) S := rc
  have rc0 := reach_sp (fn_at 4) O_sp (k + 5) 20 (rs := []) S (fun r hr => by cases hr) (by decide) (fun r hr => by cases hr)
  have rc0 : callF g (k + 29) 4 [.lst []] S = .ok (.int 0) S := rc0
  have eq1 : eqR S (.lst (rs.map Rl.W)) (.ref 0) = some true := by
    have sn : seen S (.ref 0) = .lst (rs.map Rl.W) := by rw [← hS]; rfl
    show (if dat 60 (seen S (.lst (rs.map Rl.W))) = true ∧ dat 60 (seen S (.ref 0)) = true then some (eqv (seen S (.lst (rs.map Rl.W))) (seen S (.ref 0))) else none) = _
    rw [sn]
    show (if dat 60 (.lst (rs.map Rl.W)) = true ∧ dat 60 (.lst (rs.map Rl.W)) = true then some (eqv (.lst (rs.map Rl.W)) (.lst (rs.map Rl.W))) else none) = _
    have d60 : dat 60 (.lst (rs.map Rl.W)) = true := by rw [dat_lst]; exact dl
    rw [if_pos ⟨d60, d60⟩, eqv_self d60]
  have tailE : ∃ s2, evSs (callF g (k + 29)) (mkF g (k + 29)) (mtF g) g.xf g.xfl (tl 5 b15) (Em (some (.ref 0)) (some (oN (reachR rs))) f4 f5 f6 f7 f8 f9 f10 f11 ns ws) S = .ret (.bl true) s2 := by
    refine ⟨S, ?_⟩
    cases e : reachR rs with
    | none =>
      rw [e] at rc
      simp only [oN] at rc
      generalize rs.map Rl.W = RW at *
      simp [tl, b15, Em, li, rc, rc0, eq1, oN]
    | some n =>
      rw [e] at rc
      simp only [oN] at rc
      have t1 : isTy S (.int n) .int = some true := rfl
      have t2 : isTy S (.int n) .bool = some false := rfl
      generalize rs.map Rl.W = RW at *
      simp [tl, b15, Em, li, rc, rc0, eq1, oN, t1, t2]
  obtain ⟨s2, e4⟩ := tailE
  have E : evSs (callF g (k + 29)) (mkF g (k + 29)) (mtF g) g.xf g.xfl b15 [some (.lst (ns.map .int)), none, none, none, none, none, none, none, none, none, none, none] [] = .ret (.bl true) s2 := by
    rw [e1, e2, for_step it a3]
    exact e4
  refine (congrArg (fin .pure []) E).trans ?_
  exact fin_dat (d := 1) rfl rfl
theorem lawOk (ns : List Int) (h : ns.length ≤ 63) : ∃ st', callF g 60 15 [.lst (ns.map .int)] [] = .ok (.bl true) st' := ⟨[], law 30 ns h⟩
end K72


open PySem PySem.W PySem.Calls PyProof.Rows
/-- THE LAW -/
theorem PySem.Challenge.cw_weather_k72_reach_holds : PySem.Challenge.rw_weather_k72_reach.Holds := by
  w_on; o_law
  refine HandSHeadRun.head_any (r := K72.R) (q := view K72.R.prog [20]) (H := K72.hk) (ob := K72.ob) (M := 2000) (loose := K72.loose) (d := HandSHeadRun.topDef K72.R.prog 20) (kwd := []) K72.ob_eq
    (by kernel_rfl) (fun s => by kernel_rfl) K72.run (by kernel_rfl) (by kernel_rfl)
    (by kernel_rfl) (by rfl) (by first | assumption | decide +kernel) (by decide +kernel)
    ⟨rfl, rfl, rfl, rfl, rfl, by decide +kernel⟩ ?hw ?hc
  case hw => w_witness2
  case hc =>
    exact Px.walk_px (l := PySem.Challenge.rw_weather_k72_reach) (t := K72.tab) (n := 63) (k := 60) (i := 15) (x := "_law_script")
      rfl (by decide) (by kernel_rfl) ⟨rfl, by decide, by decide⟩ K72.good rfl rfl (by kernel_rfl) rfl rfl K72.lawOk

