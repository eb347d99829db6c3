import PyProof.Rows.All
import Wide.All
import OpenK.AllK
import Wide.FinOn
import HandS.ForMost
import HandS.TupAny
import HandS.Deep
import HandS.TupLe
import HandS.SortInts
import HandS.IsInst
import HandS.SetFor
import HandS.Strs
import HandS.NoneIn
import HandS.Small
import KE.GoesEnum
import HandS.Zip
import HandS.Conv
import HandS.More
import HandS.Exc
import HandS.Ends
import HandS.Defaults
import KE.KStateDown
import HandS.Words
import HandS.WordsExc
import HandS.Head0
import HandS.Head1
import HandS.Head2
import HandS.HeadEnd
import HandS.HeadHook1
import HandS.HeadHook2
import PyProof.StrLawsRepr
import PySem.Challenge.RW_cupclasses_k93_ends_and_barren_classes
set_option Elab.async false
set_option Elab.async false
set_option linter.all false
set_option maxRecDepth 100000
/-! VI: a small language of expressions and statements over plain data, and its interpreter. -/
namespace VI
open PySem
/-! ### the language -/
inductive BOp | add | sub | mul | fdiv | mod | pow
  deriving DecidableEq
inductive COp | eq | ne | lt | le | gt | ge | is_ | isnot | isin | notin
  deriving DecidableEq
inductive BI | len | abs | tuple | list | all | any | sum | sorted | int | str | bool | repr | min2 | max2 | minl | maxl | dict | set
  deriving DecidableEq
inductive ME | index | count | get | join | split | upper | values
  deriving DecidableEq
inductive MU | append | extend | pop | reverse | insert | clear | setdefault | update | remove
  deriving DecidableEq
inductive Tgt where
  | nm (i : Nat)
  | tp (l : List Tgt)
mutual
inductive IE where
  | cst (d : PyData)
  | var (i : Nat)
  | glb (x : Str) (d : PyData)
  | bop (o : BOp) (a b : IE)
  | cmp (o : COp) (a b : IE)
  | chn (o p : COp) (a b c : IE)
  | nt (a : IE)
  | neg (a : IE)
  | andv (l : List IE)
  | orv (l : List IE)
  | ifx (c a b : IE)
  | call (f : Nat) (l : List IE)
  | bi (b : BI) (a : IE)
  | bi2 (b : BI) (a c : IE)
  | inst (a : IE) (tys : List String)
  | me (m : ME) (r : IE) (l : List IE)
  | mu (m : MU) (i : Nat) (l : List IE)
  | ix (a b : IE)
  | sl (a : IE) (lo hi : Option IE)
  | rev (a : IE)
  | tup (l : List IE)
  | lst (l : List IE)
  | dct (l : List IE)
  | lrg1 (tp : Bool) (a : IE)
  | lrg2 (tp : Bool) (a b : IE)
  | cmpr (e : IE) (t : Tgt) (it : It) (cs : List IE)
inductive It where
  | val (e : IE)
  | rng1 (a : IE)
  | rng2 (a b : IE)
  | enum (a : IE)
  | zip (a b : IE)
  | enumzip (a b : IE)
  | hid (i : Nat)
end
inductive IS where
  | asg (t : Tgt) (e : IE)
  | set (i : Nat) (k e : IE)
  | aug (i : Nat) (o : BOp) (e : IE)
  | augs (i : Nat) (k : IE) (o : BOp) (e : IE)
  | ex (e : IE)
  | ifs (c : IE) (a b : List IS)
  | for_ (t : Tgt) (it : It) (b : List IS)
  | whl (c : IE) (b : List IS)
  | ret (e : IE)
  | retn
  | brk
  | cnt
  | pass
/-! ### values -/
/-- a slot: persistent data; a list or dict that a caller lent; one of our own -/
inductive Fl | p | b | o
  deriving DecidableEq
abbrev Slot := Option (PyData × Fl)
abbrev En := List Slot
/-- data, whether its outermost list is ours alone, the names behind it -/
abbrev Res := PyData × Bool × En
abbrev CallF := Nat → List (PyData × Bool) → Option (PyData × Bool × List (PyData × Bool))
def ok64 (d : PyData) : Bool := d.canLay0 && decide (d.depth ≤ 64)
def atom : PyData → Bool
  | .none | .bool _ | .int _ | .str _ => true
  | _ => false
def pyEq (a b : PyData) : Option Bool :=
  match a, b with
  | .none, .none => some true | .none, .int _ => some false | .int _, .none => some false | .none, .bool _ => some false | .bool _, .none => some false
  | .none, .str _ => some false | .str _, .none => some false
  | .int i, .int j => some (i == j) | .bool i, .bool j => some (i == j) | .str i, .str j => some (i == j)
  | .int _, .str _ => some false | .str _, .int _ => some false | .bool _, .str _ => some false | .str _, .bool _ => some false
  | .list xs, .list ys => if xs.length ≠ ys.length then some false else if PyData.canLayAll0 xs && PyData.canLayAll0 ys && decide (min (PyData.list xs).depth (PyData.list ys).depth ≤ 64) then some (PyData.eqvAll xs ys) else none
  | a, b => if a.canLay0 && b.canLay0 && decide (min a.depth b.depth ≤ 64) then some (PyData.eqv a b) else none
def cutD (xs : List PyData) (lo hi : Option Int) : List PyData := (xs.drop (HT.sIx xs.length 0 lo)).take (HT.sIx xs.length xs.length hi - HT.sIx xs.length 0 lo)
def bopV : BOp → PyData → PyData → Option (PyData × Bool)
  | .add, .int i, .int j => some (.int (i + j), false)
  | .add, .str x, .str y => if x.length + y.length ≤ sizeLine then some (.str (x ++ y), false) else none
  | .add, .tuple x, .tuple y => if x.length + y.length ≤ sizeLine then some (.tuple (x ++ y), false) else none
  | .add, .list x, .list y => if x.length + y.length ≤ sizeLine then some (.list (x ++ y), true) else none
  | .sub, .int i, .int j => some (.int (i - j), false)
  | .mul, .int i, .int j => if i.natAbs < 2 ^ 64 ∨ j.natAbs < 2 ^ 64 then some (.int (i * j), false) else none
  | .mul, .list x, .int j => if j.natAbs < 2 ^ 63 ∧ x.length * j.toNat ≤ sizeLine then some (.list (List.replicate j.toNat x).flatten, true) else none
  | .fdiv, .int i, .int j => if j ≠ 0 ∧ j.natAbs < 1073741824 then some (.int (i.fdiv j), false) else none
  | .mod, .int i, .int j => if j ≠ 0 then some (.int (i.fmod j), false) else none
  | .pow, .int i, .int j => if 0 ≤ j ∧ j ≤ 1000000 ∧ i.natAbs < 2 ^ 64 then some (.int (i ^ j.toNat), false) else none
  | _, _, _ => none
def bool2 : Option Bool → Option PyData
  | some b => some (.bool b)
  | none => none
/-- x in xs -/
def pyIn (d : PyData) : PyData → Option Bool
  | .list xs => if PyData.canLayAll0 xs && d.canLay0 && decide (min (PyData.depthAll xs) d.depth ≤ 64) then some (xs.any fun z => PyData.eqv z d) else none
  | .tuple xs => if PyData.canLayAll0 xs && d.canLay0 && decide (min (PyData.depthAll xs) d.depth ≤ 64) then some (xs.any fun z => PyData.eqv z d) else none
  | _ => none
def lexLt : List Int → List Int → Bool := HT.lexLt
def intsOf : List PyData → Option (List Int)
  | [] => some []
  | .int i :: r => match intsOf r with
    | some l => some (i :: l)
    | none => none
  | _ :: _ => none
def boolsOf : List PyData → Option (List Bool)
  | [] => some []
  | .bool i :: r => match boolsOf r with
    | some l => some (i :: l)
    | none => none
  | _ :: _ => none
def strsOf : List PyData → Option (List Str)
  | [] => some []
  | .str i :: r => match strsOf r with
    | some l => some (i :: l)
    | none => none
  | _ :: _ => none
def copV : COp → PyData → PyData → Option Bool
  | .eq, a, b => pyEq a b
  | .ne, a, b => match pyEq a b with
    | some r => some (!r)
    | none => none
  | .lt, .int i, .int j => some (decide (i < j))
  | .le, .int i, .int j => some (decide (i ≤ j))
  | .gt, .int i, .int j => some (decide (j < i))
  | .ge, .int i, .int j => some (decide (j ≤ i))
  | .lt, .tuple x, .tuple y => match intsOf x, intsOf y with
    | some a, some b => some (lexLt a b)
    | _, _ => none
  | .is_, a, .none => some (match a with | .none => true | _ => false)
  | .isnot, a, .none => some (match a with | .none => false | _ => true)
  | .is_, .bool a, .bool b => some (a == b)
  | .isnot, .bool a, .bool b => some (!(a == b))
  | .isin, a, b => pyIn a b
  | .notin, a, b => match pyIn a b with
    | some r => some (!r)
    | none => none
  | _, _, _ => none
def insI (a : Int) : List Int → List Int
  | [] => [a]
  | b :: r => if a ≤ b then a :: b :: r else b :: insI a r
def isort : List Int → List Int
  | [] => []
  | a :: r => insI a (isort r)
def maxI : Int → List Int → Int
  | m, [] => m
  | m, a :: r => maxI (if a > m then a else m) r
def minI : Int → List Int → Int
  | m, [] => m
  | m, a :: r => minI (if a < m then a else m) r
/-- how many unlike ones -/
def stepN (l : List Int) (v : Int) : List Int := if l.any (· == v) then l else l ++ [v]
def nset (l : List Int) : Nat := (l.foldl stepN []).length
mutual
def hasList : PyData → Bool
  | .list _ => true
  | .tuple xs => hasListA xs
  | .dict kvs => hasListK kvs
  | _ => false
def hasListA : List PyData → Bool
  | [] => false
  | x :: xs => hasList x || hasListA xs
def hasListK : List (PyData × PyData) → Bool
  | [] => false
  | (_, x) :: xs => hasList x || hasListK xs
end
def biV : BI → PyData → Option (PyData × Bool)
  | .len, .list xs => some (.int xs.length, false)
  | .len, .tuple xs => some (.int xs.length, false)
  | .len, .str x => if x.length ≤ sizeLine then some (.int x.length, false) else none
  | .abs, .int i => some (.int (if i < 0 then -i else i), false)
  | .tuple, .list xs => some (.tuple xs, false)
  | .tuple, .tuple xs => some (.tuple xs, false)
  | .list, .list xs => some (.list xs, true)
  | .list, .tuple xs => some (.list xs, true)
  | .all, .list xs => match boolsOf xs with
    | some l => some (.bool (l.all id), false)
    | none => none
  | .any, .list xs => match boolsOf xs with
    | some l => some (.bool (l.any id), false)
    | none => none
  | .sum, .list xs => match intsOf xs with
    | some l => some (.int l.sum, false)
    | none => none
  | .sorted, .list xs => match intsOf xs with
    | some l => some (.list ((isort l).map .int), true)
    | none => none
  | .int, .int i => some (.int i, false)
  | .int, .bool b => some (.int (if b then 1 else 0), false)
  | .str, .int i => if i.natAbs.log2 < 1920 then some (.str (toString i), false) else none
  | .repr, d => if d.showable && decide (d.depth ≤ 64) && decide (d.shown.length ≤ sizeLine) && (!d.hasDict || !hasList d) then some (.str d.shown, false) else none
  | .maxl, .list (.int i :: xs) => match intsOf xs with
    | some l => some (.int (maxI i l), false)
    | none => none
  | .minl, .list (.int i :: xs) => match intsOf xs with
    | some l => some (.int (minI i l), false)
    | none => none
  | .set, .list xs => match intsOf xs with
    | some l => if l.length ≤ 4000 then some (.int (nset l : Nat), false) else none
    | none => none
  | _, _ => none
def bi2V : BI → PyData → PyData → Option PyData
  | .max2, .int i, .int j => some (.int (if j > i then j else i))
  | .min2, .int i, .int j => some (.int (if j < i then j else i))
  | _, _, _ => none
def tyN : PyData → String
  | .none => "NoneType"
  | .bool _ => "bool"
  | .int _ => "int"
  | .str _ => "str"
  | .list _ => "list"
  | .tuple _ => "tuple"
  | .dict _ => "dict"
def tyIs (n t : String) : Bool := n == t || (t == "int" && n == "bool")
def isiV (d : PyData) (t : String) : Bool := tyIs (tyN d) t
def keyOf : PyData → Option L2.Key
  | .int i => some (.inl i)
  | .str x => some (.inr x)
  | _ => none
def keyD : L2.Key → PyData
  | .inl i => .int i
  | .inr x => .str x
def getD : List (PyData × PyData) → L2.Key → Option PyData
  | [], _ => none
  | (k, v) :: r, x => if keyOf k = some x then some v else getD r x
def putD (kvs : List (PyData × PyData)) (x : L2.Key) (v : PyData) : List (PyData × PyData) :=
  if (kvs.any fun kv => decide (keyOf kv.1 = some x)) = true then kvs.map (fun kv => if keyOf kv.1 = some x then (kv.1, v) else kv) else kvs ++ [(keyD x, v)]
/-- k1, v1, k2, v2, .. as a dict -/
def pairUp : List PyData → List (PyData × PyData) → Option (List (PyData × PyData))
  | [], acc => some acc
  | k :: v :: r, acc => match keyOf k with
    | some x => pairUp r (putD acc x v)
    | none => none
  | _, _ => none
def ixV : PyData → PyData → Option PyData
  | .list xs, .int i => L2.atI xs i
  | .tuple xs, .int i => L2.atI xs i
  | .dict kvs, k => match keyOf k with
    | some x => getD kvs x
    | none => none
  | _, _ => none
def slV : PyData → Option Int → Option Int → Option (PyData × Bool)
  | .list xs, lo, hi => some (.list (cutD xs lo hi), true)
  | .tuple xs, lo, hi => some (.tuple (cutD xs lo hi), false)
  | .str x, lo, hi => if x.length ≤ sizeLine then some (.str (L2.cutS x lo hi), false) else none
  | _, _, _ => none
def revV : PyData → Option (PyData × Bool)
  | .list xs => some (.list xs.reverse, true)
  | .tuple xs => some (.tuple xs.reverse, false)
  | _ => none
def findD (xs : List PyData) (d : PyData) : Option Nat := xs.findIdx? fun y => PyData.eqv y d
def meV : ME → PyData → List PyData → Option PyData
  | .index, .list xs, [d] => if ok64 d && ok64 (.list xs) then (match findD xs d with
    | some j => some (.int (j : Nat))
    | none => none) else none
  | .count, .list xs, [.int k] => match intsOf xs with
    | some l => some (.int (l.count k : Nat))
    | none => none
  | .get, .dict kvs, [k] => match keyOf k with
    | some x => some ((getD kvs x).getD .none)
    | none => none
  | .get, .dict kvs, [k, d] => match keyOf k with
    | some x => some ((getD kvs x).getD d)
    | none => none
  | _, _, _ => none
def appendV : PyData → List PyData → Option (PyData × PyData)
  | .list xs, [d] => if xs.length < sizeLine then some (.list (xs ++ [d]), .none) else none
  | _, _ => none
def extendV : PyData → List PyData → Option (PyData × PyData)
  | .list xs, [.list ys] => if xs.length + ys.length ≤ sizeLine then some (.list (xs ++ ys), .none) else none
  | _, _ => none
def popV : PyData → List PyData → Option (PyData × PyData)
  | .list xs, [] => match xs[xs.length - 1]? with
    | some y => some (.list xs.dropLast, y)
    | none => none
  | .list xs, [.int i] => if i.natAbs < 2 ^ 63 then (match L2.ixN xs.length i with
    | some j => (match xs[j]? with
      | some y => some (.list (xs.eraseIdx j), y)
      | none => none)
    | none => none) else none
  | _, _ => none
def reverseV : PyData → List PyData → Option (PyData × PyData)
  | .list xs, [] => some (.list xs.reverse, .none)
  | _, _ => none
def clearV : PyData → List PyData → Option (PyData × PyData)
  | .list _, [] => some (.list [], .none)
  | _, _ => none
def insertV : PyData → List PyData → Option (PyData × PyData)
  | .list xs, [.int i, d] => if xs.length < sizeLine ∧ 0 ≤ i ∧ i.natAbs < 2 ^ 63 then some (.list (xs.take i.toNat ++ [d] ++ xs.drop i.toNat), .none) else none
  | _, _ => none
/-- a method that changes: the list or dict behind it, and what is told -/
def muV : MU → PyData → List PyData → Option (PyData × PyData)
  | .append => appendV
  | .extend => extendV
  | .pop => popV
  | .reverse => reverseV
  | .clear => clearV
  | .insert => insertV
  | _ => fun _ _ => none
def setV : PyData → PyData → PyData → Option PyData
  | .list xs, .int i, v => match L2.ixN xs.length i with
    | some j => some (.list (xs.set j v))
    | none => none
  | .dict kvs, k, v => match keyOf k with
    | some x => if kvs.length < sizeLine then some (.dict (putD kvs x v)) else none
    | none => none
  | _, _, _ => none
def augV : BOp → Int → Int → Option Int
  | .add, a, b => some (a + b)
  | .sub, a, b => some (a - b)
  | _, _, _ => none
def truV : PyData → Option Bool
  | .none => some false
  | .bool b => some b
  | .int i => some (i != 0)
  | .str x => if x.length ≤ sizeLine then some ((x.length : Int) != 0) else none
  | .list xs => some (!xs.isEmpty)
  | .tuple xs => some (!xs.isEmpty)
  | .dict _ => none
/-! ### names -/
def look (env : En) (i : Nat) : Slot := match env[i]? with
  | some s => s
  | none => none
/-- kept: what is read may be stored anywhere -/
def keepV (i : Nat) (env : En) : Option (PyData × En) := match look env i with
  | some (d, .p) => some (d, env)
  | some (d, _) => some (d, env.set i (some (d, .p)))
  | none => none
def readV (i : Nat) (env : En) : Option (PyData × En) := match look env i with
  | some (d, _) => some (d, env)
  | none => none
def takeV (i : Nat) (env : En) : Option Res := match look env i with
  | some (d, .p) => some (d, false, env)
  | some (d, .b) => some (d, false, env.set i (some (d, .p)))
  | some (d, .o) => some (d, true, env.set i none)
  | none => none
def pers : Option Res → Option (PyData × En)
  | some (d, _, env) => some (d, env)
  | none => none
/-- read at once: a name's list isn't kept -/
def rdOf (e : IE) (f : En → Option Res) (env : En) : Option (PyData × En) := match e with
  | .var i => readV i env
  | _ => pers (f env)
def tkOf (e : IE) (f : En → Option Res) (env : En) : Option Res := match e with
  | .var i => takeV i env
  | _ => f env
mutual
/-- changes nothing that stands -/
def quiet : IE → Bool
  | .cst _ | .var _ | .glb _ _ => true
  | .bop _ a b | .cmp _ a b | .ix a b | .bi2 _ a b | .lrg2 _ a b => quiet a && quiet b
  | .chn _ _ a b c | .ifx c a b => quiet a && quiet b && quiet c
  | .nt a | .neg a | .bi _ a | .inst a _ | .rev a | .lrg1 _ a => quiet a
  | .andv l | .orv l | .tup l | .lst l => quiets l
  | .me _ r l => quiet r && quiets l
  | .sl a lo hi => quiet a && (match lo with | some e => quiet e | none => true) && (match hi with | some e => quiet e | none => true)
  | .call _ _ | .mu _ _ _ | .dct _ | .cmpr _ _ _ _ => false
def quiets : List IE → Bool
  | [] => true
  | e :: r => quiet e && quiets r
end
def quietO : Option IE → Bool
  | none => true
  | some e => quiet e
/-- a name whose list is read behind what may change it -/
def lateOf (q : Bool) : IE → Option Nat
  | .var i => if q then none else some i
  | _ => none
/-- the first of two: read at once where the second one changes nothing -/
def fstOf (q : Bool) (e : IE) (f : En → Option Res) (env : En) : Option (PyData × En) := if q then rdOf e f env else pers (f env)
/-! ### targets -/
mutual
def bind : Tgt → PyData → En → Option En
  | .nm i, d, env => some (env.set i (some (d, .p)))
  | .tp l, .tuple ds, env => binds l ds env
  | .tp l, .list ds, env => binds l ds env
  | .tp _, _, _ => none
def binds : List Tgt → List PyData → En → Option En
  | [], [], env => some env
  | t :: l, d :: ds, env => match bind t d env with
    | some env' => binds l ds env'
    | none => none
  | _, _, _ => none
end
mutual
def tgs : Tgt → List Nat
  | .nm i => [i]
  | .tp l => tgss l
def tgss : List Tgt → List Nat
  | [] => []
  | t :: l => tgs t ++ tgss l
end
/-! ### arguments of a def -/
inductive Arg | at_ (i : Nat) | val (d : PyData) (own : Bool)
def argNow (env : En) : Arg → Option (PyData × Bool)
  | .val d o => some (d, o)
  | .at_ i => match look env i with
    | some (d, .p) => some (d, false)
    | some (d, _) => some (d, true)
    | none => none
def argsNow (env : En) : List Arg → Option (List (PyData × Bool))
  | [] => some []
  | a :: r => match argNow env a, argsNow env r with
    | some x, some xs => some (x :: xs)
    | _, _ => none
/-- the lent names, none twice -/
def lent (env : En) : List Arg → List Nat
  | [] => []
  | .val _ _ :: r => lent env r
  | .at_ i :: r => match look env i with
    | some (_, .p) => lent env r
    | _ => i :: lent env r
/-- behind the call: the lent ones as they came back -/
def back (env : En) : List Arg → List (PyData × Bool) → En
  | .at_ i :: r, (d, m) :: fs => match look env i with
    | some (_, .p) => back env r fs
    | some (_, f) => back (env.set i (some (d, if m then f else .p))) r fs
    | none => back env r fs
  | .val _ _ :: r, _ :: fs => back env r fs
  | _, _ => env
def callNow (C : CallF) (f : Nat) (args : List Arg) (env : En) : Option Res :=
  match argsNow env args with
  | some vs => if (lent env args).Nodup then (match C f vs with
    | some (d, own, fs) => some (d, own, back env args fs)
    | none => none) else none
  | none => none
/-! ### loops -/
inductive Flw | nx | bk | ct | rt (d : PyData) (own : Bool)
def items : PyData → Option (List PyData)
  | .list xs => some xs
  | .tuple xs => some xs
  | _ => none
def rngD (lo hi : Int) : List PyData := (List.range (hi - lo).toNat).map fun i => .int (lo + (i : Nat))
def rgD (tp : Bool) (a b : Int) : PyData := if tp then .tuple (rngD a b) else .list (rngD a b)
def rgOk (a b : Int) : Bool := decide (a.natAbs < 2 ^ 62) && decide (b.natAbs < 2 ^ 62) && decide ((b - a).toNat ≤ 2 ^ 24)
def enumD (xs : List PyData) : List PyData := xs.mapIdx fun i x => .tuple [.int (i : Nat), x]
def zipD (xs ys : List PyData) : List PyData := xs.zipWith (fun x y => .tuple [x, y]) ys
def int62 (i : Int) : Bool := decide (i.natAbs < 2 ^ 62)
/-- slots forgotten -/
def wipeE (env : En) : List Nat → En
  | [] => env
  | i :: r => (wipeE env r).set i none
/-- behind a comprehension: what was plain data at its own names' slots is there again -/
def keepP : Slot → Slot
  | some (d, .p) => some (d, .p)
  | _ => none
def unset (old : En) : List Nat → En → En
  | [], env => env
  | i :: r, env => (unset old r env).set i (keepP (look old i))
/-- a comprehension; own: its names -/
def compL (t : Tgt) (own : List Nat) (cs : En → Option (Bool × En)) (e : En → Option Res) : List PyData → List PyData → En → Option (List PyData × En)
  | [], acc, env => some (acc, env)
  | x :: xs, acc, env => match bind t x env with
    | none => none
    | some env1 => match cs env1 with
      | none => none
      | some (false, env2) => compL t own cs e xs acc (wipeE env2 own)
      | some (true, env2) => match e env2 with
        | none => none
        | some (d, _, env3) => if acc.length < sizeLine then compL t own cs e xs (acc ++ [d]) (wipeE env3 own) else none
def forL (t : Tgt) (b : En → Option (Flw × En)) : List PyData → En → Option (Flw × En)
  | [], env => some (.nx, env)
  | x :: xs, env => match bind t x env with
    | none => none
    | some env1 => match b env1 with
      | none => none
      | some (.nx, env2) => forL t b xs env2
      | some (.ct, env2) => forL t b xs env2
      | some (.bk, env2) => some (.nx, env2)
      | some (.rt d o, env2) => some (.rt d o, env2)
def whlL (c : En → Option (Bool × En)) (b : En → Option (Flw × En)) : Nat → En → Option (Flw × En)
  | 0, _ => none
  | n + 1, env => match c env with
    | none => none
    | some (false, env1) => some (.nx, env1)
    | some (true, env1) => match b env1 with
      | none => none
      | some (.nx, env2) => whlL c b n env2
      | some (.ct, env2) => whlL c b n env2
      | some (.bk, env2) => some (.nx, env2)
      | some (.rt d o, env2) => some (.rt d o, env2)
def truE : Option (PyData × En) → Option (Bool × En)
  | some (d, env) => match truV d with
    | some b => some (b, env)
    | none => none
  | none => none
/-- an expression as a test -/
def tst (e : IE) (f : En → Option Res) (env : En) : Option (Bool × En) := truE (rdOf e f env)
/-- a name's own list, gone over while nobody touches it -/
def hidOf : It → En → Option (Nat × PyData × Fl × List PyData)
  | .hid i, env => match look env i with
    | some (.list _, .p) => none
    | some (.list xs, f) => some (i, .list xs, f, xs)
    | _ => none
  | _, _ => none
/-- two names' own lists, gone over side by side while nobody touches them -/
def hid2Of : It → En → Option ((Nat × PyData × Fl × List PyData) × (Nat × PyData × Fl × List PyData))
  | .zip (.var i) (.var j), env => if i = j then none else (match look env i, look env j with
    | some (.list xs, f), some (.list ys, f') => if f = .p ∨ f' = .p then none else some ((i, .list xs, f, xs), (j, .list ys, f', ys))
    | _, _ => none)
  | _, _ => none
mutual
def asgI : IS → List Nat
  | .asg t _ => tgs t
  | .aug i _ _ => [i]
  | .ifs _ a b => asgs a ++ asgs b
  | .for_ t _ b => tgs t ++ asgs b
  | .whl _ b => asgs b
  | _ => []
def asgs : List IS → List Nat
  | [] => []
  | s :: r => asgI s ++ asgs r
end
/-! ### the interpreter -/
mutual
def ev (C : CallF) : IE → En → Option Res
  | .cst d, env => some (d, false, env)
  | .glb _ d, env => some (d, false, env)
  | .var i, env => match keepV i env with
    | some (d, env') => some (d, false, env')
    | none => none
  | .bop o a b, env => match fstOf (quiet b) a (ev C a) env with
    | some (x, env1) => (match rdOf b (ev C b) env1 with
      | some (y, env2) => (match bopV o x y with
        | some (z, own) => some (z, own, env2)
        | none => none)
      | none => none)
    | none => none
  | .cmp o a b, env => match fstOf (quiet b) a (ev C a) env with
    | some (x, env1) => (match rdOf b (ev C b) env1 with
      | some (y, env2) => (match copV o x y with
        | some z => some (.bool z, false, env2)
        | none => none)
      | none => none)
    | none => none
  | .chn o p a b c, env => match fstOf (quiet b) a (ev C a) env with
    | some (x, env1) => (match fstOf (quiet c) b (ev C b) env1 with
      | some (y, env2) => (match copV o x y with
        | some true => (match rdOf c (ev C c) env2 with
          | some (z, env3) => (match copV p y z with
            | some w => some (.bool w, false, env3)
            | none => none)
          | none => none)
        | some false => some (.bool false, false, env2)
        | none => none)
      | none => none)
    | none => none
  | .nt a, env => match tst a (ev C a) env with
    | some (b, env1) => some (.bool (!b), false, env1)
    | none => none
  | .neg a, env => match ev C a env with
    | some (.int i, _, env1) => some (.int (-i), false, env1)
    | _ => none
  | .andv l, env => evAnd C l env
  | .orv l, env => evOr C l env
  | .ifx c a b, env => match tst c (ev C c) env with
    | some (true, env1) => (match ev C a env1 with
      | some (d, _, env2) => some (d, false, env2)
      | none => none)
    | some (false, env1) => (match ev C b env1 with
      | some (d, _, env2) => some (d, false, env2)
      | none => none)
    | none => none
  | .call f l, env => match evArgs C l env with
    | some (as, env1) => callNow C f as env1
    | none => none
  | .bi b a, env => match rdOf a (ev C a) env with
    | some (x, env1) => (match biV b x with
      | some (d, own) => some (d, own, env1)
      | none => none)
    | none => none
  | .bi2 b a c, env => match pers (ev C a env) with
    | some (x, env1) => (match pers (ev C c env1) with
      | some (y, env2) => (match bi2V b x y with
        | some d => some (d, false, env2)
        | none => none)
      | none => none)
    | none => none
  | .inst a ts, env => match rdOf a (ev C a) env with
    | some (x, env1) => some (.bool (ts.any (isiV x)), false, env1)
    | none => none
  | .me m r l, env => match fstOf (quiets l) r (ev C r) env with
    | some (x, env1) => (match evs C l env1 with
      | some (ys, env2) => (match meV m x ys with
        | some d => some (d, false, env2)
        | none => none)
      | none => none)
    | none => none
  | .mu m i l, env => match look env i with
    | some (.list _, _) => (match evs C l env with
      | some (ys, env1) => (match look env1 i with
        | some (_, .p) => none
        | some (x, f) => (match muV m x ys with
          | some (x', d) => some (d, false, env1.set i (some (x', f)))
          | none => none)
        | none => none)
      | none => none)
    | _ => none
  | .ix a b, env => match lateOf (quiet b) a with
    | some i => (match look env i with
      | some _ => (match pers (ev C b env) with
        | some (y, env1) => (match readV i env1 with
          | some (x, env2) => (match ixV x y with
            | some z => some (z, false, env2)
            | none => none)
          | none => none)
        | none => none)
      | none => none)
    | none => (match fstOf (quiet b) a (ev C a) env with
      | some (x, env1) => (match pers (ev C b env1) with
        | some (y, env2) => (match ixV x y with
          | some z => some (z, false, env2)
          | none => none)
        | none => none)
      | none => none)
  | .sl a lo hi, env => match fstOf (quietO lo && quietO hi) a (ev C a) env with
    | some (x, env1) => (match evO C lo env1 with
      | some (l, env2) => (match evO C hi env2 with
        | some (h, env3) => (match slV x l h with
          | some (d, own) => some (d, own, env3)
          | none => none)
        | none => none)
      | none => none)
    | none => none
  | .rev a, env => match rdOf a (ev C a) env with
    | some (x, env1) => (match revV x with
      | some (d, own) => some (d, own, env1)
      | none => none)
    | none => none
  | .tup l, env => match evs C l env with
    | some (ds, env1) => if ds.length ≤ sizeLine then some (.tuple ds, false, env1) else none
    | none => none
  | .lst l, env => match evs C l env with
    | some (ds, env1) => if ds.length ≤ sizeLine then some (.list ds, true, env1) else none
    | none => none
  | .dct l, env => match evs C l env with
    | some (ds, env1) => (match pairUp ds [] with
      | some kvs => some (.dict kvs, true, env1)
      | none => none)
    | none => none
  | .lrg1 tp a, env => match rdOf a (ev C a) env with
    | some (.int n, env1) => if rgOk 0 n then some (rgD tp 0 n, !tp, env1) else none
    | _ => none
  | .lrg2 tp a b, env => match fstOf (quiet b) a (ev C a) env with
    | some (.int m, env1) => (match rdOf b (ev C b) env1 with
      | some (.int n, env2) => if rgOk m n then some (rgD tp m n, !tp, env2) else none
      | _ => none)
    | _ => none
  | .cmpr e t it cs, env => match hidOf it env with
    | some (i, d, f, xs) => if (tgs t).contains i then none else (match compL t (tgs t) (evCs C cs) (ev C e) xs [] (wipeE (env.set i none) (tgs t)) with
      | some (ds, env2) => some (.list ds, true, (unset (env.set i none) (tgs t) env2).set i (some (d, f)))
      | none => none)
    | none => (match hid2Of it env with
      | some ((i, d, f, xs), (j, d', f', ys)) => if (tgs t).contains i || (tgs t).contains j then none else (match compL t (tgs t) (evCs C cs) (ev C e) (zipD xs ys) [] (wipeE ((env.set i none).set j none) (tgs t)) with
        | some (ds, env2) => some (.list ds, true, ((unset ((env.set i none).set j none) (tgs t) env2).set j (some (d', f'))).set i (some (d, f)))
        | none => none)
      | none => (match evIt C it env with
        | some (xs, env1) => (match compL t (tgs t) (evCs C cs) (ev C e) xs [] (wipeE env1 (tgs t)) with
          | some (ds, env2) => some (.list ds, true, unset env1 (tgs t) env2)
          | none => none)
        | none => none))
def evs (C : CallF) : List IE → En → Option (List PyData × En)
  | [], env => some ([], env)
  | e :: r, env => match ev C e env with
    | some (d, _, env1) => (match evs C r env1 with
      | some (ds, env2) => some (d :: ds, env2)
      | none => none)
    | none => none
def evArgs (C : CallF) : List IE → En → Option (List Arg × En)
  | [], env => some ([], env)
  | .var i :: r, env => match look env i with
    | some _ => (match evArgs C r env with
      | some (as, env1) => some (.at_ i :: as, env1)
      | none => none)
    | none => none
  | e :: r, env => match ev C e env with
    | some (d, own, env1) => (match evArgs C r env1 with
      | some (as, env2) => some (.val d own :: as, env2)
      | none => none)
    | none => none
def evO (C : CallF) : Option IE → En → Option (Option Int × En)
  | none, env => some (none, env)
  | some e, env => match ev C e env with
    | some (.int i, _, env1) => some (some i, env1)
    | _ => none
def evAnd (C : CallF) : List IE → En → Option Res
  | [], _ => none
  | [e], env => match ev C e env with
    | some (d, _, env1) => some (d, false, env1)
    | none => none
  | e :: r, env => match ev C e env with
    | some (d, _, env1) => (match truV d with
      | some true => evAnd C r env1
      | some false => some (d, false, env1)
      | none => none)
    | none => none
def evOr (C : CallF) : List IE → En → Option Res
  | [], _ => none
  | [e], env => match ev C e env with
    | some (d, _, env1) => some (d, false, env1)
    | none => none
  | e :: r, env => match ev C e env with
    | some (d, _, env1) => (match truV d with
      | some false => evOr C r env1
      | some true => some (d, false, env1)
      | none => none)
    | none => none
def evCs (C : CallF) : List IE → En → Option (Bool × En)
  | [], env => some (true, env)
  | e :: r, env => match tst e (ev C e) env with
    | some (true, env1) => evCs C r env1
    | some (false, env1) => some (false, env1)
    | none => none
def evIt (C : CallF) : It → En → Option (List PyData × En)
  | .val e, env => match ev C e env with
    | some (d, _, env1) => (match items d with
      | some xs => some (xs, env1)
      | none => none)
    | none => none
  | .rng1 a, env => match ev C a env with
    | some (.int n, _, env1) => if int62 n then some (rngD 0 n, env1) else none
    | _ => none
  | .rng2 a b, env => match ev C a env with
    | some (.int m, _, env1) => (match ev C b env1 with
      | some (.int n, _, env2) => if int62 m && int62 n then some (rngD m n, env2) else none
      | _ => none)
    | _ => none
  | .enum e, env => match ev C e env with
    | some (d, _, env1) => (match items d with
      | some xs => some (enumD xs, env1)
      | none => none)
    | none => none
  | .zip a b, env => match ev C a env with
    | some (d, _, env1) => (match ev C b env1 with
      | some (d', _, env2) => (match d, d' with
        | .list xs, .list ys => some (zipD xs ys, env2)
        | .tuple xs, .tuple ys => some (zipD xs ys, env2)
        | _, _ => none)
      | none => none)
    | none => none
  | .enumzip _ _, _ => none
  | .hid i, env => match look env i with
    | some (d, .p) => (match items d with
      | some xs => some (xs, env)
      | none => none)
    | _ => none
end
def WFUEL : Nat := 100000
mutual
def ex (C : CallF) : IS → En → Option (Flw × En)
  | .asg (.nm i) e, env => match tkOf e (ev C e) env with
    | some (d, own, env1) => some (.nx, env1.set i (some (d, if own then .o else .p)))
    | none => none
  | .asg t e, env => match ev C e env with
    | some (d, _, env1) => (match bind t d env1 with
      | some env2 => some (.nx, env2)
      | none => none)
    | none => none
  | .set i k e, env => match ev C e env with
    | some (v, _, env1) => (match look env1 i with
      | some _ => (match ev C k env1 with
        | some (kd, _, env2) => (match look env2 i with
          | some (x, .p) => none
          | some (x, f) => (match setV x kd v with
            | some x' => some (.nx, env2.set i (some (x', f)))
            | none => none)
          | none => none)
        | none => none)
      | none => none)
    | none => none
  | .aug i o e, env => match look env i with
    | some (.int x, _) => (match ev C e env with
      | some (.int y, _, env1) => (match augV o x y with
        | some z => some (.nx, env1.set i (some (.int z, .p)))
        | none => none)
      | _ => none)
    | _ => none
  | .augs i k o e, env => match ev C k env with
    | some (kd, _, env1) => (match look env1 i with
      | some (x, _) => (match ixV x kd with
        | some (.int a) => (match ev C e env1 with
          | some (.int b, _, env2) => (match look env2 i with
            | some (x2, .p) => none
            | some (x2, f) => (match augV o a b with
              | some z => (match setV x2 kd (.int z) with
                | some x' => some (.nx, env2.set i (some (x', f)))
                | none => none)
              | none => none)
            | none => none)
          | _ => none)
        | _ => none)
      | none => none)
    | none => none
  | .ex e, env => match ev C e env with
    | some (_, _, env1) => some (.nx, env1)
    | none => none
  | .ifs c a b, env => match tst c (ev C c) env with
    | some (true, env1) => exs C a env1
    | some (false, env1) => exs C b env1
    | none => none
  | .for_ t it b, env => match hidOf it env with
    | some (i, d, f, xs) => if (tgs t ++ asgs b).contains i then none else (match forL t (exs C b) xs (env.set i none) with
      | some (fl, env2) => some (fl, env2.set i (some (d, f)))
      | none => none)
    | none => (match evIt C it env with
      | some (xs, env1) => forL t (exs C b) xs env1
      | none => none)
  | .whl c b, env => whlL (tst c (ev C c)) (exs C b) WFUEL env
  | .ret e, env => match tkOf e (ev C e) env with
    | some (d, own, env1) => some (.rt d own, env1)
    | none => none
  | .retn, env => some (.rt .none false, env)
  | .brk, env => some (.bk, env)
  | .cnt, env => some (.ct, env)
  | .pass, env => some (.nx, env)
def exs (C : CallF) : List IS → En → Option (Flw × En)
  | [], env => some (.nx, env)
  | s :: r, env => match ex C s env with
    | some (.nx, env1) => exs C r env1
    | some (f, env1) => some (f, env1)
    | none => none
end
/-! ### defs -/
structure Fn where
  np : Nat
  ns : Nat
  body : List IS
  asg : List Nat
def entry (fn : Fn) : Nat → List (PyData × Bool) → En
  | _, [] => []
  | i, (d, m) :: r => some (d, if m && !fn.asg.contains i then .b else .p) :: entry fn (i + 1) r
def finals (fn : Fn) (env : En) : Nat → List (PyData × Bool) → List (PyData × Bool)
  | _, [] => []
  | i, (d, m) :: r => (if fn.asg.contains i then (d, false) else match look env i with
    | some (d', .p) => (d', false)
    | some (d', _) => (d', true)
    | none => (d, false)) :: finals fn env (i + 1) r
def okFin (fn : Fn) (env : En) : Nat → List (PyData × Bool) → Bool
  | _, [] => true
  | i, (_, m) :: r => (fn.asg.contains i || match look env i with
    | some (_, .p) => true
    | some _ => m
    | none => false) && okFin fn env (i + 1) r
def fin (fn : Fn) (args : List (PyData × Bool)) (d : PyData) (own : Bool) (env : En) : Option (PyData × Bool × List (PyData × Bool)) :=
  if okFin fn env 0 args = true then some (d, own, finals fn env 0 args) else none
def runFn (C : CallF) (fn : Fn) (args : List (PyData × Bool)) : Option (PyData × Bool × List (PyData × Bool)) :=
  if args.length = fn.np then (match exs C fn.body (entry fn 0 args ++ List.replicate (fn.ns - fn.np) none) with
    | some (.rt d own, env) => fin fn args d own env
    | some (.nx, env) => fin fn args .none false env
    | _ => none) else none
def call (Γ : List Fn) : Nat → CallF
  | 0 => fun _ _ => none
  | k + 1 => fun f args => match Γ[f]? with
    | some fn => runFn (call Γ k) fn args
    | none => none
end VI
set_option maxRecDepth 100000
set_option maxHeartbeats 4000000
/-! VI, the heap: how plain data lie in the abstract heap; steps. -/
namespace VI
open PySem PySem.Spec PyProof.Rows L2
/-! ### data in the heap -/
mutual
inductive PR (K : PySem.W.Frag) (G : Hp) : PyData → V → Prop
  | non : PR K G .none .non
  | bl (b : Bool) : PR K G (.bool b) (.bl b)
  | int (i : Int) : PR K G (.int i) (.int i)
  | str (x : Str) : PR K G (.str x) (.str x)
  | lst {a : Addr} {vs : List V} {ds : List PyData} : SqL K G a vs → vs.length ≤ sizeLine → PRs K G ds vs → PR K G (.list ds) (.ref a)
  | tup {a : Addr} {vs : List V} {ds : List PyData} : SqT K G a vs → vs.length ≤ sizeLine → PRs K G ds vs → PR K G (.tuple ds) (.ref a)
  | dct {a : Addr} {kvs : List (Key × V)} {ds : List (PyData × PyData)} : G a = some (.dK kvs) → kvs.length ≤ sizeLine → PRk K G ds kvs → PR K G (.dict ds) (.ref a)
inductive PRs (K : PySem.W.Frag) (G : Hp) : List PyData → List V → Prop
  | nil : PRs K G [] []
  | cons {d : PyData} {v : V} {ds : List PyData} {vs : List V} : PR K G d v → PRs K G ds vs → PRs K G (d :: ds) (v :: vs)
inductive PRk (K : PySem.W.Frag) (G : Hp) : List (PyData × PyData) → List (Key × V) → Prop
  | nil : PRk K G [] []
  | cons {k : Key} {d : PyData} {v : V} {ds : List (PyData × PyData)} {vs : List (Key × V)} : PR K G d v → PRk K G ds vs → PRk K G ((keyD k, d) :: ds) ((k, v) :: vs)
end
section
variable {K : PySem.W.Frag} {G G' H H' : Hp}
theorem same_sqT (s : Same G G') {a : Addr} {xs : List V} (h : SqT K G a xs) : SqT K G' a xs := by
  rcases h with (h | ⟨o, h⟩) | h
  · exact .inl (.inl (s _ _ h))
  · exact .inl (.inr ⟨o, s _ _ h⟩)
  · exact .inr h
mutual
theorem PR.mono (s : Same G G') : ∀ {d : PyData} {v : V}, PR K G d v → PR K G' d v
  | _, _, .non => .non
  | _, _, .bl b => .bl b
  | _, _, .int i => .int i
  | _, _, .str x => .str x
  | _, _, .lst h z r => .lst (s.seq h) z (r.mono s)
  | _, _, .tup h z r => .tup (same_sqT s h) z (r.mono s)
  | _, _, .dct h z r => .dct (s _ _ h) z (r.mono s)
theorem PRs.mono (s : Same G G') : ∀ {d : List PyData} {v : List V}, PRs K G d v → PRs K G' d v
  | _, _, .nil => .nil
  | _, _, .cons r t => .cons (r.mono s) (t.mono s)
theorem PRk.mono (s : Same G G') : ∀ {d : List (PyData × PyData)} {v : List (Key × V)}, PRk K G d v → PRk K G' d v
  | _, _, .nil => .nil
  | _, _, .cons r t => .cons (r.mono s) (t.mono s)
end
theorem PRs.length : ∀ {ds : List PyData} {vs : List V}, PRs K G ds vs → ds.length = vs.length
  | _, _, .nil => rfl
  | _, _, .cons _ t => by simp [t.length]
theorem PRk.length : ∀ {ds : List (PyData × PyData)} {vs : List (Key × V)}, PRk K G ds vs → ds.length = vs.length
  | _, _, .nil => rfl
  | _, _, .cons _ t => by simp [t.length]
theorem PRs.get : ∀ {ds : List PyData} {vs : List V} {i : Nat} {d : PyData}, PRs K G ds vs → ds[i]? = some d → ∃ v, vs[i]? = some v ∧ PR K G d v
  | _, _, _, _, .nil, e => by simp at e
  | _, _, 0, _, .cons r _, e => by
    simp at e
    subst e
    exact ⟨_, rfl, r⟩
  | _, _, i + 1, d, .cons _ t, e => by
    obtain ⟨v, h1, h2⟩ := PRs.get (i := i) (d := d) t (by simpa using e)
    exact ⟨v, by simpa using h1, h2⟩
theorem PRs.getV {ds : List PyData} {vs : List V} {i : Nat} {v : V} (r : PRs K G ds vs) (e : vs[i]? = some v) : ∃ d, ds[i]? = some d ∧ PR K G d v := by
  obtain ⟨hi, _⟩ := List.getElem?_eq_some_iff.mp e
  have hl := r.length
  obtain ⟨w, h1, h2⟩ := r.get (List.getElem?_eq_getElem (show i < ds.length by omega))
  rw [e] at h1
  cases h1
  exact ⟨_, List.getElem?_eq_getElem (by omega), h2⟩
theorem PRs.append : ∀ {a b : List PyData} {x y : List V}, PRs K G a x → PRs K G b y → PRs K G (a ++ b) (x ++ y)
  | _, _, _, _, .nil, s => s
  | _, _, _, _, .cons r t, s => .cons r (t.append s)
theorem PRs.take : ∀ {a : List PyData} {x : List V} (n : Nat), PRs K G a x → PRs K G (a.take n) (x.take n)
  | _, _, 0, _ => .nil
  | _, _, _ + 1, .nil => .nil
  | _, _, n + 1, .cons r t => .cons r (t.take n)
theorem PRs.drop : ∀ {a : List PyData} {x : List V} (n : Nat), PRs K G a x → PRs K G (a.drop n) (x.drop n)
  | _, _, 0, r => r
  | _, _, _ + 1, .nil => .nil
  | _, _, n + 1, .cons _ t => PRs.drop n t
theorem PRs.set : ∀ {a : List PyData} {x : List V} {d : PyData} {v : V} (n : Nat), PRs K G a x → PR K G d v → PRs K G (a.set n d) (x.set n v)
  | _, _, _, _, _, .nil, _ => .nil
  | _, _, _, _, 0, .cons _ t, q => .cons q t
  | _, _, _, _, n + 1, .cons r t, q => .cons r (t.set n q)
theorem PRs.reverse : ∀ {a : List PyData} {x : List V}, PRs K G a x → PRs K G a.reverse x.reverse
  | _, _, .nil => .nil
  | _, _, .cons r t => by
    rw [List.reverse_cons, List.reverse_cons]
    exact t.reverse.append (.cons r .nil)
theorem PRs.eraseIdx : ∀ {a : List PyData} {x : List V} (n : Nat), PRs K G a x → PRs K G (a.eraseIdx n) (x.eraseIdx n)
  | _, _, _, .nil => .nil
  | _, _, 0, .cons _ t => t
  | _, _, n + 1, .cons r t => .cons r (t.eraseIdx n)
theorem PRs.rep {a : List PyData} {x : List V} (r : PRs K G a x) : ∀ n : Nat, PRs K G (List.replicate n a).flatten (List.replicate n x).flatten
  | 0 => .nil
  | n + 1 => by
    rw [List.replicate_succ, List.replicate_succ, List.flatten_cons, List.flatten_cons]
    exact r.append (r.rep n)
theorem PRs.dropLast {a : List PyData} {x : List V} (r : PRs K G a x) : PRs K G a.dropLast x.dropLast := by
  rw [List.dropLast_eq_take, List.dropLast_eq_take, r.length]
  exact r.take _
theorem PRs.ints : ∀ {ns : List Int}, PRs K G (ns.map .int) (ns.map .int)
  | [] => .nil
  | _ :: _ => .cons (.int _) PRs.ints
theorem PRs.of_ints : ∀ {ds : List PyData} {vs : List V} {ns : List Int}, PRs K G ds vs → intsOf ds = some ns → vs = ns.map V.int
  | _, _, _, .nil, e => by cases e; rfl
  | _, _, ns, .cons (.int i) t, e => by
    unfold intsOf at e
    split at e
    · rename_i l hl
      cases e
      rw [t.of_ints hl]
      rfl
    · cases e
theorem PRs.of_bools : ∀ {ds : List PyData} {vs : List V} {ns : List Bool}, PRs K G ds vs → boolsOf ds = some ns → vs = ns.map V.bl
  | _, _, _, .nil, e => by cases e; rfl
  | _, _, ns, .cons (.bl i) t, e => by
    unfold boolsOf at e
    split at e
    · rename_i l hl
      cases e
      rw [t.of_bools hl]
      rfl
    · cases e
theorem PRs.of_strs : ∀ {ds : List PyData} {vs : List V} {ns : List Str}, PRs K G ds vs → strsOf ds = some ns → vs = ns.map V.str
  | _, _, _, .nil, e => by cases e; rfl
  | _, _, ns, .cons (.str i) t, e => by
    unfold strsOf at e
    split at e
    · rename_i l hl
      cases e
      rw [t.of_strs hl]
      rfl
    · cases e
mutual
theorem PR.dp : ∀ {d : PyData} {v : V}, PR K G d v → d.canLay0 = true → Dp K G v d
  | _, _, .non, _ => .non
  | _, _, .bl b, _ => .bl b
  | _, _, .int i, _ => .int i
  | _, _, .str x, _ => .str x
  | _, _, .lst h _ r, c => .lst h (r.dp (by simpa [PyData.canLay0] using c))
  | _, _, .tup h _ r, c => .tup h (r.dp (by simpa [PyData.canLay0] using c))
  | _, _, .dct _ _ _, c => by simp [PyData.canLay0] at c
theorem PRs.dp : ∀ {d : List PyData} {v : List V}, PRs K G d v → PyData.canLayAll0 d = true → DpAll K G v d
  | _, _, .nil, _ => .nil
  | _, _, .cons r t, c => by
    simp only [PyData.canLayAll0, Bool.and_eq_true] at c
    exact .cons (r.dp c.1) (t.dp c.2)
end
/-! ### an owned list or dict -/
def Cell (K : PySem.W.Frag) (G H : Hp) (a : Addr) : PyData → Prop
  | .list ds => ∃ vs, H a = some (.lst vs) ∧ vs.length ≤ sizeLine ∧ PRs K G ds vs
  | .dict ds => ∃ kvs, H a = some (.dK kvs) ∧ kvs.length ≤ sizeLine ∧ PRk K G ds kvs
  | _ => False
theorem Cell.some {a : Addr} {d : PyData} (c : Cell K G H a d) : ∃ o, H a = some o := by
  cases d <;> first | exact False.elim c | (obtain ⟨vs, h, _⟩ := c; exact ⟨_, h⟩)
theorem Cell.ne {a : Addr} {d : PyData} (c : Cell K G H a d) : H a ≠ none := by
  obtain ⟨o, h⟩ := c.some
  rw [h]
  exact fun z => nomatch z
theorem Cell.keep {a : Addr} {d : PyData} (c : Cell K G H a d) (s : Same G G') (h : H' a = H a) : Cell K G' H' a d := by
  cases d <;> first | exact False.elim c | (obtain ⟨vs, e, z, r⟩ := c; exact ⟨vs, h.trans e, z, r.mono s⟩)
theorem Cell.pr {a : Addr} {d : PyData} (c : Cell K G H a d) {o : HO} (h : H a = Option.some o) (n : G a = none) : PR K (upd G a o) d (.ref a) := by
  have s : Same G (upd G a o) := fun b u e => by
    rw [upd_ne (ne_of_none e n)]
    exact e
  cases d with
  | list ds =>
    obtain ⟨vs, e, z, r⟩ := c
    rw [e] at h
    cases h
    exact .lst (.inl (.inl upd_same)) z (r.mono s)
  | dict ds =>
    obtain ⟨vs, e, z, r⟩ := c
    rw [e] at h
    cases h
    exact .dct upd_same z (r.mono s)
  | _ => exact False.elim c
/-- what can be read now -/
def RR (K : PySem.W.Frag) (G H : Hp) (d : PyData) (v : V) : Prop := PR K G d v ∨ ∃ a, v = .ref a ∧ Cell K G H a d
theorem RR.prH (s : Same G H) {d : PyData} {v : V} (r : RR K G H d v) : PR K H d v := by
  rcases r with r | ⟨a, rfl, c⟩
  · exact r.mono s
  · cases d with
    | list ds =>
      obtain ⟨vs, e, z, r⟩ := c
      exact .lst (.inl (.inl e)) z (r.mono s)
    | dict ds =>
      obtain ⟨vs, e, z, r⟩ := c
      exact .dct e z (r.mono s)
    | _ => exact False.elim c
theorem RR.list (s : Same G H) {ds : List PyData} {v : V} (r : RR K G H (.list ds) v) : ∃ a vs, v = .ref a ∧ SqL K H a vs ∧ vs.length ≤ sizeLine ∧ PRs K G ds vs := by
  rcases r with r | ⟨a, rfl, vs, e, z, r⟩
  · cases r with
    | lst h z r => exact ⟨_, _, rfl, s.seq h, z, r⟩
  · exact ⟨a, vs, rfl, .inl (.inl e), z, r⟩
theorem RR.tuple (s : Same G H) {ds : List PyData} {v : V} (r : RR K G H (.tuple ds) v) : ∃ a vs, v = .ref a ∧ SqT K H a vs ∧ vs.length ≤ sizeLine ∧ PRs K G ds vs := by
  rcases r with r | ⟨a, rfl, c⟩
  · cases r with
    | tup h z r => exact ⟨_, _, rfl, same_sqT s h, z, r⟩
  · exact False.elim c
theorem RR.dict (s : Same G H) {ds : List (PyData × PyData)} {v : V} (r : RR K G H (.dict ds) v) : ∃ a kvs, v = .ref a ∧ H a = some (.dK kvs) ∧ kvs.length ≤ sizeLine ∧ PRk K G ds kvs := by
  rcases r with r | ⟨a, rfl, kvs, e, z, r⟩
  · cases r with
    | dct h z r => exact ⟨_, _, rfl, s _ _ h, z, r⟩
  · exact ⟨a, kvs, rfl, e, z, r⟩
theorem RR.atom {d : PyData} {v : V} (r : RR K G H d v) (h : atom d = true) : PR K G d v := by
  rcases r with r | ⟨a, rfl, c⟩
  · exact r
  · cases d <;> first | exact False.elim c | simp [VI.atom] at h
theorem RR.keep {d : PyData} {v : V} (r : RR K G H d v) (s : Same G G') (t : Same H H') : RR K G' H' d v := by
  rcases r with r | ⟨a, rfl, c⟩
  · exact .inl (r.mono s)
  · obtain ⟨o, e⟩ := c.some
    exact .inr ⟨a, rfl, c.keep s ((t _ _ e).trans e.symm)⟩
theorem same_upd {p : Addr} {o : HO} (h : H p = none) : Same H (upd H p o) := fun b x e => by
  rw [upd_ne (ne_of_none e h)]
  exact e
theorem same_up2 {p : Addr} {o : HO} (s : Same G H) : Same (upd G p o) (upd H p o) := fun b x e => by
  by_cases hb : b = p
  · subst hb
    rw [upd_same] at e ⊢
    exact e
  · rw [upd_ne hb] at e ⊢
    exact s _ _ e
end
/-! ### names -/
theorem look_set_same {env : En} {i : Nat} {s : Slot} (h : i < env.length) : look (env.set i s) i = s := by
  unfold look
  rw [List.getElem?_set_self h]
theorem look_set_ne {env : En} {i j : Nat} {s : Slot} (h : i ≠ j) : look (env.set i s) j = look env j := by
  unfold look
  rw [List.getElem?_set_ne h]
theorem look_lt {env : En} {i : Nat} {x : PyData × Fl} (h : look env i = some x) : i < env.length := by
  unfold look at h
  split at h
  · rename_i e
    exact (List.getElem?_eq_some_iff.mp e).1
  · cases h
def MutA (σ : L2.St) (env : En) (a : Addr) : Prop := ∃ i d f, look env i = some (d, f) ∧ f ≠ .p ∧ σ[i]? = some (some (.ref a))
structure Rel (K : PySem.W.Frag) (H0 G H : Hp) (σ : L2.St) (env : En) : Prop where
  le : Same G H
  dom : ∀ a, H0 a ≠ none → H a ≠ none
  len : env.length = σ.length
  slot : ∀ i d f, look env i = some (d, f) → ∃ v, σ[i]? = some (some v) ∧ (f = .p → PR K G d v) ∧ (f ≠ .p → ∃ a, v = .ref a ∧ G a = none ∧ Cell K G H a d)
  own : ∀ i d a, look env i = some (d, .o) → σ[i]? = some (some (.ref a)) → H0 a = none
  dist : ∀ i j d e f g a, look env i = some (d, f) → f ≠ .p → look env j = some (e, g) → g ≠ .p → σ[i]? = some (some (.ref a)) → σ[j]? = some (some (.ref a)) → i = j
section
variable {K : PySem.W.Frag} {H0 G G' H H' : Hp} {σ σ' : L2.St} {env env' : En}
theorem Rel.mutA (r : Rel K H0 G H σ env) {a : Addr} (m : MutA σ env a) : G a = none ∧ ∃ d, Cell K G H a d := by
  obtain ⟨i, d, f, h1, h2, h3⟩ := m
  obtain ⟨v, e, _, q⟩ := r.slot i d f h1
  obtain ⟨b, rfl, n, c⟩ := q h2
  rw [h3] at e
  cases e
  exact ⟨n, d, c⟩
theorem Rel.mutNe (r : Rel K H0 G H σ env) {a : Addr} (m : MutA σ env a) : H a ≠ none := (r.mutA m).2.elim fun _ c => c.ne
/-- from one state to another -/
structure Ste (K : PySem.W.Frag) (H0 G H : Hp) (σ : L2.St) (env : En) (G' H' : Hp) (σ' : L2.St) (env' : En) : Prop where
  rel : Rel K H0 G' H' σ' env'
  le : Same G G'
  grow : ∀ a, G' a ≠ none → G a ≠ none ∨ H a = none ∨ MutA σ env a
  frame : ∀ a o, H a = some o → ¬ MutA σ env a → H' a = some o
  muts : ∀ a, MutA σ' env' a → MutA σ env a ∨ H a = none
  doms : ∀ a, H a ≠ none → H' a ≠ none
theorem Ste.refl (r : Rel K H0 G H σ env) : Ste K H0 G H σ env G H σ env :=
  ⟨r, fun _ _ e => e, fun _ h => .inl h, fun _ _ h _ => h, fun _ h => .inl h, fun _ h => h⟩
theorem Ste.trans {G'' H'' : Hp} {σ'' : L2.St} {env'' : En} (x : Ste K H0 G H σ env G' H' σ' env') (y : Ste K H0 G' H' σ' env' G'' H'' σ'' env'') : Ste K H0 G H σ env G'' H'' σ'' env'' := by
  have un : ∀ a, H' a = none → H a = none := fun a n => by
    cases e : H a with
    | none => rfl
    | some o => exact absurd n (x.doms a (by rw [e]; exact fun z => nomatch z))
  refine ⟨y.rel, x.le.trans y.le, fun a h => ?_, fun a o h n => ?_, fun a m => ?_, fun a h => y.doms a (x.doms a h)⟩
  · rcases y.grow a h with h | h | h
    · exact x.grow a h
    · exact .inr (.inl (un a h))
    · rcases x.muts a h with h | h
      · exact .inr (.inr h)
      · exact .inr (.inl h)
  · refine y.frame a o (x.frame a o h n) fun m => ?_
    rcases x.muts a m with z | z
    · exact n z
    · rw [h] at z
      cases z
  · rcases y.muts a m with z | z
    · exact x.muts a z
    · exact .inr (un a z)
theorem Ste.un (x : Ste K H0 G H σ env G' H' σ' env') {a : Addr} (n : H' a = none) : H a = none := by
  cases e : H a with
  | none => rfl
  | some o => exact absurd n (x.doms a (by rw [e]; exact fun z => nomatch z))
/-- what an expression tells -/
def VR (K : PySem.W.Frag) (H0 : Hp) (σ : L2.St) (env : En) (H G' H' : Hp) (env' : En) (d : PyData) (own : Bool) (v : V) : Prop :=
  (own = false → PR K G' d v) ∧ (own = true → ∃ a, v = .ref a ∧ G' a = none ∧ Cell K G' H' a d ∧ H0 a = none ∧ (H a = none ∨ MutA σ env a) ∧ ¬ MutA σ env' a)
theorem VR.pr {d : PyData} {v : V} (h : PR K G' d v) : VR K H0 σ env H G' H' env' d false v := ⟨fun _ => h, fun z => nomatch z⟩
theorem VR.rr {d : PyData} {own : Bool} {v : V} (h : VR K H0 σ env H G' H' env' d own v) : RR K G' H' d v := by
  cases own with
  | false => exact .inl (h.1 rfl)
  | true =>
    obtain ⟨a, e, _, c, _⟩ := h.2 rfl
    exact .inr ⟨a, e, c⟩
/-- the heap grows, nothing changes -/
theorem Rel.grown (r : Rel K H0 G H σ env) (s : Same G G') (t : Same H H') (u : Same G' H') (g : ∀ a, G' a ≠ none → G a ≠ none ∨ H a = none) : Rel K H0 G' H' σ env := by
  refine ⟨u, fun a h => ?_, r.len, fun i d f h => ?_, r.own, r.dist⟩
  · have := r.dom a h
    cases e : H a with
    | none => exact absurd e this
    | some o =>
      rw [t _ _ e]
      exact fun z => nomatch z
  · obtain ⟨v, e, p, q⟩ := r.slot i d f h
    refine ⟨v, e, fun z => (p z).mono s, fun z => ?_⟩
    obtain ⟨a, rfl, n, c⟩ := q z
    obtain ⟨o, ho⟩ := c.some
    refine ⟨a, rfl, ?_, c.keep s ((t _ _ ho).trans ho.symm)⟩
    cases e' : G' a with
    | none => rfl
    | some o' =>
      rcases g a (by rw [e']; exact fun z => nomatch z) with z | z
      · exact absurd n z
      · rw [ho] at z
        cases z
theorem Ste.grown (r : Rel K H0 G H σ env) (s : Same G G') (t : Same H H') (u : Same G' H') (g : ∀ a, G' a ≠ none → G a ≠ none ∨ H a = none) : Ste K H0 G H σ env G' H' σ env :=
  ⟨r.grown s t u g, s, fun a h => (g a h).elim .inl fun z => .inr (.inl z), fun a o h _ => t a o h, fun a h => .inl h, fun a h => by
    cases e : H a with
    | none => exact absurd e h
    | some o =>
      rw [t _ _ e]
      exact fun z => nomatch z⟩
/-- a new object, kept -/
theorem Ste.new (r : Rel K H0 G H σ env) {p : Addr} {o : HO} (n : H p = none) : Ste K H0 G H σ env (upd G p o) (upd H p o) σ env := by
  have nG : G p = none := r.le.free n
  refine Ste.grown r (same_upd nG) (same_upd n) (same_up2 r.le) fun a h => ?_
  by_cases e : a = p
  · subst e
    exact .inr n
  · rw [upd_ne e] at h
    exact .inl h
/-- a new object, not yet kept -/
theorem Ste.newO (r : Rel K H0 G H σ env) {p : Addr} {o : HO} (n : H p = none) : Ste K H0 G H σ env G (upd H p o) σ env :=
  Ste.grown r (Same.refl _) (same_upd n) (r.le.trans (same_upd n)) fun a h => .inl h
/-- a slot is kept -/
theorem Rel.freeze (r : Rel K H0 G H σ env) {i : Nat} {d : PyData} {f : Fl} (h : look env i = some (d, f)) (hf : f ≠ .p) :
    ∃ a, σ[i]? = some (some (.ref a)) ∧ ∃ G', Ste K H0 G H σ env G' H σ (env.set i (some (d, .p))) ∧ PR K G' d (.ref a) := by
  obtain ⟨v, e, _, q⟩ := r.slot i d f h
  obtain ⟨a, rfl, n, c⟩ := q hf
  obtain ⟨o, ho⟩ := c.some
  have hi := look_lt h
  have sG : Same G (upd G a o) := same_upd n
  refine ⟨a, e, upd G a o, ⟨⟨?_, r.dom, by simpa using r.len, fun j d' f' hj => ?_, fun j d' b hj hb => ?_, fun j k d1 d2 f1 f2 b h1 n1 h2 n2 e1 e2 => ?_⟩, sG, fun b hb => ?_, fun b u hb _ => hb, fun b hb => ?_, fun b hb => hb⟩, c.pr ho n⟩
  · intro b u hb
    by_cases hba : b = a
    · subst hba
      rw [upd_same] at hb
      cases hb
      exact ho
    · rw [upd_ne hba] at hb
      exact r.le _ _ hb
  · by_cases hij : i = j
    · subst hij
      rw [look_set_same hi] at hj
      cases hj
      exact ⟨_, e, fun _ => c.pr ho n, fun z => absurd rfl z⟩
    · rw [look_set_ne hij] at hj
      obtain ⟨v, e', p, q⟩ := r.slot j d' f' hj
      refine ⟨v, e', fun z => (p z).mono sG, fun z => ?_⟩
      obtain ⟨b, rfl, nb, cb⟩ := q z
      have hba : b ≠ a := fun z' => hij (r.dist i j d d' f f' a h hf hj z e (z' ▸ e'))
      exact ⟨b, rfl, by rw [upd_ne hba]; exact nb, cb.keep sG rfl⟩
  · by_cases hij : i = j
    · subst hij
      rw [look_set_same hi] at hj
      cases hj
    · rw [look_set_ne hij] at hj
      exact r.own j d' b hj hb
  · by_cases hij : i = j
    · subst hij
      rw [look_set_same hi] at h1
      cases h1
      exact absurd rfl n1
    · by_cases hik : i = k
      · subst hik
        rw [look_set_same hi] at h2
        cases h2
        exact absurd rfl n2
      · rw [look_set_ne hij] at h1
        rw [look_set_ne hik] at h2
        exact r.dist j k d1 d2 f1 f2 b h1 n1 h2 n2 e1 e2
  · by_cases hba : b = a
    · subst hba
      exact .inr (.inr ⟨i, d, f, h, hf, e⟩)
    · rw [upd_ne hba] at hb
      exact .inl hb
  · obtain ⟨j, d', f', hj, hn, he⟩ := hb
    by_cases hij : i = j
    · subst hij
      rw [look_set_same hi] at hj
      cases hj
      exact absurd rfl hn
    · rw [look_set_ne hij] at hj
      exact .inl ⟨j, d', f', hj, hn, he⟩
/-- an own value is kept -/
theorem Rel.keepO (r : Rel K H0 G H σ env) {a : Addr} {d : PyData} (n : G a = none) (c : Cell K G H a d) (hm : ¬ MutA σ env a) : ∃ G', Same G G' ∧ Rel K H0 G' H σ env ∧ PR K G' d (.ref a) ∧ ∀ b, G' b ≠ none → G b ≠ none ∨ b = a := by
  obtain ⟨o, ho⟩ := c.some
  have sG : Same G (upd G a o) := same_upd n
  refine ⟨upd G a o, sG, ⟨?_, r.dom, r.len, fun j d' f' hj => ?_, r.own, r.dist⟩, c.pr ho n, fun b hb => ?_⟩
  · intro b u hb
    by_cases hba : b = a
    · subst hba
      rw [upd_same] at hb
      cases hb
      exact ho
    · rw [upd_ne hba] at hb
      exact r.le _ _ hb
  · obtain ⟨v, e', p, q⟩ := r.slot j d' f' hj
    refine ⟨v, e', fun z => (p z).mono sG, fun z => ?_⟩
    obtain ⟨b, rfl, nb, cb⟩ := q z
    have hba : b ≠ a := fun z' => hm ⟨j, d', f', hj, z, z' ▸ e'⟩
    exact ⟨b, rfl, by rw [upd_ne hba]; exact nb, cb.keep sG rfl⟩
  · by_cases hba : b = a
    · exact .inr hba
    · rw [upd_ne hba] at hb
      exact .inl hb
end
/-! ### readings by functions -/
/-- an expression's step: the slots stay; a quiet one changes nothing -/
structure SteE (K : PySem.W.Frag) (H0 : Hp) (q : Bool) (G H : Hp) (σ : L2.St) (env : En) (G' H' : Hp) (env' : En) : Prop extends Ste K H0 G H σ env G' H' σ env' where
  mutE : ∀ a, MutA σ env' a → MutA σ env a
  qt : q = true → Same H H'
section
variable {K : PySem.W.Frag} {H0 G G' H H' : Hp} {σ σ' : L2.St} {env env' : En} {q q1 q2 : Bool}
theorem SteE.refl (r : Rel K H0 G H σ env) : SteE K H0 q G H σ env G H env := ⟨Ste.refl r, fun _ h => h, fun _ => Same.refl _⟩
theorem SteE.trans {G'' H'' : Hp} {env'' : En} (x : SteE K H0 q1 G H σ env G' H' env') (y : SteE K H0 q2 G' H' σ env' G'' H'' env'') (h : q = true → q1 = true ∧ q2 = true := by simp) : SteE K H0 q G H σ env G'' H'' env'' :=
  ⟨x.toSte.trans y.toSte, fun a h => x.mutE a (y.mutE a h), fun z => (x.qt (h z).1).trans (y.qt (h z).2)⟩
theorem SteE.to (x : SteE K H0 q1 G H σ env G' H' env') (h : q = true → q1 = true) : SteE K H0 q G H σ env G' H' env' := ⟨x.toSte, x.mutE, fun z => x.qt (h z)⟩
/-- an own value ahead of a step is there behind it -/
theorem SteE.cell (x : SteE K H0 q G H σ env G' H' env') {a : Addr} {d : PyData} (n : G a = none) (c : Cell K G H a d) (hm : ¬ MutA σ env a) : G' a = none ∧ Cell K G' H' a d ∧ ¬ MutA σ env' a := by
  obtain ⟨o, ho⟩ := c.some
  refine ⟨?_, c.keep x.le ((x.frame a o ho hm).trans ho.symm), fun z => hm (x.mutE a z)⟩
  cases e : G' a with
  | none => rfl
  | some u =>
    rcases x.grow a (by rw [e]; exact fun z => nomatch z) with z | z | z
    · exact absurd n z
    · rw [ho] at z
      cases z
    · exact absurd z hm
/-- what a value's operation adds: nothing that stands changes -/
structure VNew (K : PySem.W.Frag) (G H G' H' : Hp) (d : PyData) (own : Bool) (v : V) : Prop where
  sG : Same G G'
  sH : Same H H'
  le : Same G' H'
  grow : ∀ a, G' a ≠ none → G a ≠ none ∨ H a = none
  pr : own = false → PR K G' d v
  ow : own = true → ∃ a, v = .ref a ∧ H a = none ∧ G' a = none ∧ Cell K G' H' a d
theorem vn_val (s : Same G H) {d : PyData} {v : V} (h : PR K G d v) : VNew K G H G H d false v := ⟨Same.refl _, Same.refl _, s, fun _ z => .inl z, fun _ => h, fun z => nomatch z⟩
theorem vn_tup (s : Same G H) {p : Addr} {ds : List PyData} {xs : List V} (n : H p = none) (h : PRs K G ds xs) (z : xs.length ≤ sizeLine) : VNew K G H (upd G p (.tup xs)) (upd H p (.tup xs)) (.tuple ds) false (.ref p) := by
  have nG := s.free n
  refine ⟨same_upd nG, same_upd n, same_up2 s, fun a h => ?_, fun _ => .tup (.inl (.inl upd_same)) z (h.mono (same_upd nG)), fun z => nomatch z⟩
  by_cases e : a = p
  · subst e
    exact .inr n
  · rw [upd_ne e] at h
    exact .inl h
theorem vn_lst (s : Same G H) {p : Addr} {ds : List PyData} {xs : List V} (n : H p = none) (h : PRs K G ds xs) (z : xs.length ≤ sizeLine) : VNew K G H G (upd H p (.lst xs)) (.list ds) true (.ref p) :=
  ⟨Same.refl _, same_upd n, s.trans (same_upd n), fun _ z => .inl z, fun z => (nomatch z), fun _ => ⟨p, rfl, n, s.free n, xs, upd_same, z, h⟩⟩
theorem Rel.vnew (r : Rel K H0 G H σ env) {d : PyData} {own : Bool} {v : V} (n : VNew K G H G' H' d own v) : SteE K H0 q G H σ env G' H' env ∧ VR K H0 σ env H G' H' env d own v := by
  refine ⟨⟨Ste.grown r n.sG n.sH n.le n.grow, fun _ h => h, fun _ => n.sH⟩, n.pr, fun z => ?_⟩
  obtain ⟨a, rfl, h1, h2, h3⟩ := n.ow z
  refine ⟨a, rfl, h2, h3, ?_, .inl h1, fun m => r.mutNe m h1⟩
  cases e : H0 a with
  | none => rfl
  | some o => exact absurd h1 (r.dom a (by rw [e]; exact fun z => nomatch z))
end
/-- what is behind an expression -/
def Post (K : PySem.W.Frag) (H0 : Hp) (q : Bool) (σ : L2.St) (env : En) (G H : Hp) (r : Res) (v : V) (H' : Hp) : Prop :=
  ∃ G', SteE K H0 q G H σ env G' H' r.2.2 ∧ VR K H0 σ env H G' H' r.2.2 r.1 r.2.1 v
def tF (K : PySem.W.Frag) (H0 : Hp) (q : Bool) (f : En → Option Res) : TE := fun σ H Q => ∃ G env r, Rel K H0 G H σ env ∧ f env = some r ∧ ∀ v H', Post K H0 q σ env G H r v H' → Q v H'
/-- kept, and read at once -/
def tP (K : PySem.W.Frag) (H0 : Hp) (q : Bool) (f : En → Option (PyData × En)) : TE := fun σ H Q => ∃ G env r, Rel K H0 G H σ env ∧ f env = some r ∧ ∀ v H' G', SteE K H0 q G H σ env G' H' r.2 → PR K G' r.1 v → Q v H'
def tR (K : PySem.W.Frag) (H0 : Hp) (q : Bool) (f : En → Option (PyData × En)) : TE := fun σ H Q => ∃ G env r, Rel K H0 G H σ env ∧ f env = some r ∧ ∀ v H' G', SteE K H0 q G H σ env G' H' r.2 → RR K G' H' r.1 v → Q v H'
def JE (X : Cx) (e : Expr) (q : Bool) (f : En → Option Res) : Prop := ∀ H0, PE X e (tF X.K H0 q f)
def JP (X : Cx) (e : Expr) (q : Bool) (f : En → Option (PyData × En)) : Prop := ∀ H0, PE X e (tP X.K H0 q f)
def JR (X : Cx) (e : Expr) (q : Bool) (f : En → Option (PyData × En)) : Prop := ∀ H0, PE X e (tR X.K H0 q f)
theorem PE.weak {X : Cx} {e : Expr} {t t' : TE} (h : PE X e t) (w : ∀ σ H Q, t' σ H Q → t σ H Q) : PE X e t' := ⟨fun pins s σ H Q I q => h.run pins s σ H Q I (w σ H Q q)⟩
section
variable {X : Cx} {e : Expr} {q : Bool} {f : En → Option Res}
theorem JE.p (h : JE X e q f) : JP X e q (fun env => pers (f env)) := fun H0 => PE.weak (h H0) fun σ H Q ⟨G, env, r, R, e, qq⟩ => by
  cases hf : f env with
  | none => simp [pers, hf] at e
  | some z =>
    obtain ⟨d, own, env'⟩ := z
    simp only [pers, hf, Option.some.injEq] at e
    subst e
    refine ⟨G, env, _, R, hf, fun v H' ⟨G', S, V⟩ => ?_⟩
    cases own with
    | false => exact qq v H' G' S (V.1 rfl)
    | true =>
      obtain ⟨a, rfl, n, c, _, fr, hm⟩ := V.2 rfl
      obtain ⟨G2, s2, R2, p2, g2⟩ := S.rel.keepO n c hm
      refine qq _ H' G2 ⟨⟨R2, S.le.trans s2, fun b hb => ?_, S.frame, S.muts, S.doms⟩, S.mutE, S.qt⟩ p2
      rcases g2 b hb with z | z
      · exact S.grow b z
      · subst z
        exact .inr fr
theorem JP.r {f : En → Option (PyData × En)} (h : JP X e q f) : JR X e q f := fun H0 => PE.weak (h H0) fun σ H Q ⟨G, env, r, R, e, qq⟩ => ⟨G, env, r, R, e, fun v H' G' S V => qq v H' G' S (.inl V)⟩
theorem JE.r (h : JE X e q f) : JR X e q (fun env => pers (f env)) := h.p.r
end
end VI
set_option maxRecDepth 100000
set_option maxHeartbeats 4000000
/-! VI: expressions: names, constants, operators. -/
namespace VI
open PySem PySem.Spec PyProof.Rows L2
section
variable {X : Cx} {e : Expr} {x : Str} {i : Nat} {pos : Pos}
/-! ### names, constants -/
theorem jr_var (hN : X.N[i]? = some x) (hv : Vis X.env.scope x) (hd : (x == ("__debug__" : Str)) = false) (hc : (x == ("__classdict__" : Str)) = false) : JR X (.Name x pos) true (readV i) := fun H0 =>
  PE.weak (pe_var hN hv hd hc) fun σ H Q ⟨G, env, r, R, e, qq⟩ => by
    unfold readV at e
    split at e
    · rename_i d f hl
      cases e
      obtain ⟨v, es, p, o⟩ := R.slot i d f hl
      refine ⟨v, es, qq v H G (SteE.refl R) ?_⟩
      by_cases hf : f = .p
      · exact .inl (p hf)
      · obtain ⟨a, rfl, _, c⟩ := o hf
        exact .inr ⟨a, rfl, c⟩
    · cases e
theorem Ste.toE {K : PySem.W.Frag} {H0 G H G' : Hp} {σ : L2.St} {env : En} {i : Nat} {s : Slot} {q : Bool} (x : Ste K H0 G H σ env G' H σ (env.set i s)) (hs : ∀ d f, s = some (d, f) → f = .p) : SteE K H0 q G H σ env G' H (env.set i s) := by
  refine ⟨x, fun a ⟨j, d, f, h1, h2, h3⟩ => ?_, fun _ => Same.refl _⟩
  by_cases hij : i = j
  · subst hij
    have hl := look_lt h1
    rw [List.length_set] at hl
    rw [look_set_same hl] at h1
    exact absurd (hs _ _ h1) h2
  · rw [look_set_ne hij] at h1
    exact ⟨j, d, f, h1, h2, h3⟩
theorem jp_var (hN : X.N[i]? = some x) (hv : Vis X.env.scope x) (hd : (x == ("__debug__" : Str)) = false) (hc : (x == ("__classdict__" : Str)) = false) : JP X (.Name x pos) true (keepV i) := fun H0 =>
  PE.weak (pe_var hN hv hd hc) fun σ H Q ⟨G, env, r, R, e, qq⟩ => by
    unfold keepV at e
    split at e
    · rename_i d hl
      cases e
      obtain ⟨v, es, p, o⟩ := R.slot i d .p hl
      exact ⟨v, es, qq v H G (SteE.refl R) (p rfl)⟩
    · rename_i d f hf hl
      cases e
      obtain ⟨a, es, G', S, p⟩ := R.freeze hl hf
      exact ⟨.ref a, es, qq _ H G' (S.toE fun d f z => by cases z; rfl) p⟩
    · cases e
theorem je_var (hN : X.N[i]? = some x) (hv : Vis X.env.scope x) (hd : (x == ("__debug__" : Str)) = false) (hc : (x == ("__classdict__" : Str)) = false) (C : CallF) : JE X (.Name x pos) true (ev C (.var i)) := fun H0 =>
  PE.weak (jp_var hN hv hd hc H0) fun σ H Q ⟨G, env, r, R, e, qq⟩ => by
    simp only [ev] at e
    split at e
    · rename_i d env' hk
      cases e
      exact ⟨G, env, _, R, hk, fun v H' G' S p => qq v H' ⟨G', S, .pr p⟩⟩
    · cases e
theorem je_take (hN : X.N[i]? = some x) (hv : Vis X.env.scope x) (hd : (x == ("__debug__" : Str)) = false) (hc : (x == ("__classdict__" : Str)) = false) : JE X (.Name x pos) true (takeV i) := fun H0 =>
  PE.weak (pe_var hN hv hd hc) fun σ H Q ⟨G, env, r, R, e, qq⟩ => by
    unfold takeV at e
    split at e
    · rename_i d hl
      cases e
      obtain ⟨v, es, p, o⟩ := R.slot i d .p hl
      exact ⟨v, es, qq v H ⟨G, SteE.refl R, .pr (p rfl)⟩⟩
    · rename_i d hl
      cases e
      obtain ⟨a, es, G', S, p⟩ := R.freeze hl (fun z => nomatch z)
      exact ⟨.ref a, es, qq _ H ⟨G', S.toE fun d f z => by cases z; rfl, .pr p⟩⟩
    · rename_i d hl
      cases e
      obtain ⟨v, es, p, o⟩ := R.slot i d .o hl
      obtain ⟨a, rfl, n, c⟩ := o (fun z => nomatch z)
      have hi := look_lt hl
      have lk : ∀ j d' f', look (env.set i none) j = some (d', f') → look env j = some (d', f') ∧ j ≠ i := fun j d' f' h => by
        by_cases hij : i = j
        · subst hij
          rw [look_set_same hi] at h
          cases h
        · rw [look_set_ne hij] at h
          exact ⟨h, fun z => hij z.symm⟩
      have R' : Rel X.K H0 G H σ (env.set i none) := by
        refine ⟨R.le, R.dom, by simpa using R.len, fun j d' f' h => R.slot j d' f' (lk j d' f' h).1, fun j d' b h => R.own j d' b (lk j d' _ h).1, fun j k d1 d2 f1 f2 b h1 n1 h2 n2 => R.dist j k d1 d2 f1 f2 b (lk j d1 f1 h1).1 n1 (lk k d2 f2 h2).1 n2⟩
      have mm : ∀ b, MutA σ (env.set i none) b → MutA σ env b := fun b ⟨j, d', f', h1, h2, h3⟩ => ⟨j, d', f', (lk j d' f' h1).1, h2, h3⟩
      refine ⟨.ref a, es, qq _ H ⟨G, ⟨⟨R', Same.refl _, fun _ z => .inl z, fun _ _ h _ => h, fun b h => .inl (mm b h), fun _ h => h⟩, mm, fun _ => Same.refl _⟩, fun z => (nomatch z), fun _ => ⟨a, rfl, n, c, R.own i d a hl es, .inr ⟨i, d, .o, hl, fun z => (nomatch z), es⟩, fun ⟨j, d', f', h1, h2, h3⟩ => ?_⟩⟩⟩
      obtain ⟨h4, h5⟩ := lk j d' f' h1
      exact h5 (R.dist j i d' d f' .o a h4 h2 hl (fun z => nomatch z) h3 es)
    · cases e
theorem je_cst {d : PyData} {v : V} (h : PE X e (tC v)) (hp : ∀ G, PR X.K G d v) : JE X e true (fun env => some (d, false, env)) := fun H0 =>
  PE.weak h fun σ H Q ⟨G, env, r, R, e, qq⟩ => by
    cases e
    exact qq v H ⟨G, SteE.refl R, .pr (hp G)⟩
/-! ### values' operations -/
def OpS (X : Cx) (f : Value → Value → Sem Value) (g : PyData → PyData → Option (PyData × Bool)) : Prop :=
  ∃ r, OpR X f r ∧ ∀ (G H : Hp) (d e : PyData) (x y : V) (z : PyData) (own : Bool) (Q : VK), Same G H → RR X.K G H d x → RR X.K G H e y → g d e = some (z, own) → (∀ v G' H', VNew X.K G H G' H' z own v → Q v H') → r x y H Q
theorem keep1 {K : PySem.W.Frag} {H0 G1 H1 G2 H2 : Hp} {q2 : Bool} {σ : L2.St} {env1 env2 : En} {d : PyData} {v : V} (S : SteE K H0 q2 G1 H1 σ env1 G2 H2 env2) (p : q2 = false → PR K G1 d v) (r : RR K G1 H1 d v) : RR K G2 H2 d v := by
  cases hq : q2 with
  | false => exact .inl ((p hq).mono S.le)
  | true => exact r.keep S.le (S.qt hq)
/-- first of two -/
def JF (X : Cx) (e : Expr) (q q2 : Bool) (f : En → Option (PyData × En)) : Prop :=
  ∀ H0, PE X e (fun σ H Q => ∃ G env r, Rel X.K H0 G H σ env ∧ f env = some r ∧ ∀ v H' G', SteE X.K H0 q G H σ env G' H' r.2 → (q2 = false → PR X.K G' r.1 v) → RR X.K G' H' r.1 v → Q v H')
theorem je_two {a b : Expr} {q1 q2 : Bool} {fa fb : En → Option (PyData × En)} {g : PyData → PyData → Option (PyData × Bool)} {e : Expr} {F : Value → Value → Sem Value} (hop : OpS X F g)
    (he : ∀ r ta tb, OpR X F r → PE X a ta → PE X b tb → PE X e (tOp r ta tb)) (ha : JF X a q1 q2 fa) (hb : JR X b q2 fb) :
    JE X e (q1 && q2) (fun env => match fa env with
      | some (x, env1) => (match fb env1 with
        | some (y, env2) => (match g x y with
          | some (z, own) => some (z, own, env2)
          | none => none)
        | none => none)
      | none => none) := fun H0 => by
  obtain ⟨r, hr, hop⟩ := hop
  refine PE.weak (he r _ _ hr (ha H0) (hb H0)) fun σ H Q ⟨G, env, res, R, e, qq⟩ => ?_
  dsimp only at e
  split at e
  · rename_i d1 env1 ea
    split at e
    · rename_i d2 env2 eb
      split at e
      · rename_i z own eg
        cases e
        refine ⟨G, env, _, R, ea, fun v H0' G0 S1 p1 r1 => ⟨G0, env1, _, S1.rel, eb, fun w H1 G1 S2 r2 => ?_⟩⟩
        have S : SteE X.K H0 (q1 && q2) G H σ env G1 H1 env2 := S1.trans S2
        have r1 := keep1 S2 p1 r1
        refine hop G1 H1 d1 d2 v w z own Q S.rel.le r1 r2 eg fun u G2 H2 n => ?_
        obtain ⟨S2, V2⟩ := S.rel.vnew (q := true) n
        refine qq u H2 ⟨G2, S.trans S2 (by simp), V2.1, fun z => ?_⟩
        obtain ⟨a, rfl, k1, k2, k3, k4, k5⟩ := V2.2 z
        refine ⟨a, rfl, k1, k2, k3, ?_, k5⟩
        rcases k4 with k4 | k4
        · exact .inl (S.un k4)
        · exact absurd k4 k5
      · cases e
    · cases e
  · cases e
end
end VI
set_option maxRecDepth 100000
set_option maxHeartbeats 4000000
/-! VI: operators by values. -/
namespace VI
open PySem PySem.Spec PyProof.Rows L2
section
variable {X : Cx}
def opB : BOp → Operator
  | .add => .Add | .sub => .Sub | .mul => .Mult | .fdiv => .FloorDiv | .mod => .Mod | .pow => .Pow
theorem PR.eqInt {K : PySem.W.Frag} {G : Hp} {i : Int} {v : V} (h : PR K G (.int i) v) : v = .int i := by cases h; rfl
theorem PR.eqStr {K : PySem.W.Frag} {G : Hp} {i : Str} {v : V} (h : PR K G (.str i) v) : v = .str i := by cases h; rfl
theorem PR.eqBl {K : PySem.W.Frag} {G : Hp} {i : Bool} {v : V} (h : PR K G (.bool i) v) : v = .bl i := by cases h; rfl
theorem PR.eqNon {K : PySem.W.Frag} {G : Hp} {v : V} (h : PR K G .none v) : v = .non := by cases h; rfl
theorem RR.int {K : PySem.W.Frag} {G H : Hp} {i : Int} {v : V} (h : RR K G H (.int i) v) : v = .int i := (h.atom rfl).eqInt
theorem RR.str {K : PySem.W.Frag} {G H : Hp} {i : Str} {v : V} (h : RR K G H (.str i) v) : v = .str i := (h.atom rfl).eqStr
theorem RR.bl {K : PySem.W.Frag} {G H : Hp} {i : Bool} {v : V} (h : RR K G H (.bool i) v) : v = .bl i := (h.atom rfl).eqBl
theorem RR.non {K : PySem.W.Frag} {G H : Hp} {v : V} (h : RR K G H .none v) : v = .non := (h.atom rfl).eqNon
/-- ints in, an int out -/
theorem ops_int {f : Value → Value → Sem Value} {Cn : Int → Int → Prop} {g : Int → Int → Int} {b : PyData → PyData → Option (PyData × Bool)} (h : OpR X f (rI Cn fun i j => .int (g i j)))
    (hb : ∀ d e z own, b d e = some (z, own) → ∃ i j, d = .int i ∧ e = .int j ∧ Cn i j ∧ z = .int (g i j) ∧ own = false) : OpS X f b := by
  refine ⟨_, h, fun G H d e x y z own Q s r1 r2 eg q => ?_⟩
  obtain ⟨i, j, rfl, rfl, hc, rfl, rfl⟩ := hb d e z own eg
  exact ⟨i, j, r1.int, r2.int, hc, q _ _ _ (vn_val s (.int _))⟩
theorem rI0_of {f : Value → Value → Sem Value} {g : Int → Int → V} (h : OpR X f (rI0 g)) : OpR X f (rI (fun _ _ => True) g) := fun pins s σ H x y v u Q I rx ry ⟨i, j, e1, e2, _, q⟩ => h pins s σ H x y v u Q I rx ry ⟨i, j, e1, e2, q⟩
theorem ops_sub : OpS X (binaryOp .Sub) (bopV .sub) := ops_int (rI0_of op_sub) fun d e z own h => by
  cases d <;> cases e <;> simp [bopV] at h
  exact ⟨_, _, rfl, rfl, trivial, h.1.symm, h.2⟩
theorem ops_fdiv : OpS X (binaryOp .FloorDiv) (bopV .fdiv) := ops_int op_fdivN fun d e z own h => by
  cases d <;> cases e <;> simp [bopV] at h
  exact ⟨_, _, rfl, rfl, h.1, h.2.1.symm, h.2.2⟩
theorem ops_mod : OpS X (binaryOp .Mod) (bopV .mod) := ops_int op_modN fun d e z own h => by
  cases d <;> cases e <;> simp [bopV] at h
  exact ⟨_, _, rfl, rfl, h.1, h.2.1.symm, h.2.2⟩
theorem ops_pow : OpS X (binaryOp .Pow) (bopV .pow) := ops_int op_pow fun d e z own h => by
  cases d <;> cases e <;> simp [bopV] at h
  exact ⟨_, _, rfl, rfl, h.1, h.2.1.symm, h.2.2⟩
end
/-! ### lists: +, times -/
theorem int_rmul_listW (a : Int) (t : Tok) (l : Addr) (items : Array Value) (n : Nat) (dd : Option Addr) (sl : Array (Option Value)) :
    Meets (Builtin.«int.__rmul__» ⟨[.int a t, .ref l], []⟩) (fun _ R s => s.heap.get? l = some { cls := .type "list", dict := dd, data := .seq items n, slots := sl } ∧ R (.ok (.ret Value.notImplemented)) s) :=
  .of_wp fun prog w A R s h => by obtain ⟨hp, g, d, tk, os⟩ := s; obtain ⟨hl, h⟩ := h; wp_walk using wpAny_loadPart' hl; exact ⟨_, rfl, h⟩
theorem list_mulW (l : Addr) (items : Array Value) (n : Nat) (dd : Option Addr) (sl : Array (Option Value)) (x : Int) (u : Tok) (hc0 : ¬(!Builtin.List.listFitsIndex x) = true) (hc1 : ¬items.size * x.toNat > (2 ^ 63 - 1) / 8) (hc2 : ¬Builtin.List.listTooLong (items.size * x.toNat) = true)
    (hsz : (List.foldl (fun x1 x2 => x1 ++ x2) #[] (List.replicate (if items.isEmpty = true then 0 else x.toNat) items)).size ≤ sizeLine) :
    Meets (Builtin.«list.__mul__» ⟨[.ref l, .int x u], []⟩) (fun _ R s => s.heap.get? l = some { cls := .type "list", dict := dd, data := .seq items n, slots := sl } ∧ R (.ok (.ret (Value.ref s.heap.objs.size))) { s with heap := s.heap.push { cls := Value.type "list", data := Data.seq (List.foldl (fun x1 x2 => x1 ++ x2) #[] (List.replicate (if items.isEmpty = true then 0 else x.toNat) items)) }, toks := s.toks }) :=
  .of_wp fun prog w A R s h => by
    obtain ⟨hp, g, d, tk, os⟩ := s; obtain ⟨hl, h⟩ := h
    wp_walk using wpAny_loadPart' hl; refine wpAny_ite_false (decide_eq_false (Nat.not_lt.mpr hsz)) ?_; wp_walk using wpAny_loadPart' hl; exact ⟨_, rfl, h⟩
section
variable {X : Cx}
def rCatL (K : PySem.W.Frag) : R2 := fun x y H Q => ∃ l b xs zs, x = .ref l ∧ y = .ref b ∧ SqL K H l xs ∧ SqL K H b zs ∧ xs.length + zs.length ≤ sizeLine ∧ ∀ p, H p = none → Q (.ref p) (upd H p (.lst (xs ++ zs)))
theorem op_catL : OpR X (binaryOp .Add) (rCatL X.K) := by
  intro pins s σ H x y v u Q I rx ry h
  obtain ⟨l, b, xs, zs, rfl, rfl, hH, hB, hz, q⟩ := h
  cases rx
  cases ry
  obtain ⟨its, r, ⟨⟨cls, dd, data, sl⟩, n, ho, hc, hd0, hd⟩, z⟩ := I.list hH
  obtain ⟨its2, r2, ⟨⟨cls2, dd2, data2, sl2⟩, n2, ho2, hc2, hd02, hd2⟩, z2⟩ := I.list hB
  simp only at hc hd hc2 hd2
  subst hc hd hc2 hd2
  have e1 := r.length
  have e2 := r2.length
  refine concat_meets ⟨_, ho, rfl⟩ ⟨_, ho2, rfl⟩ noFill_list_add seq_list_add PySem.F.slot_list_add PySem.F.entry_list_add (PySem.F.args_list_add_2 _ _) (list_addW l b its.toArray its2.toArray n n2 dd dd2 sl sl2 (by simp only [List.size_toArray]; omega)) ⟨ho, ho2, ?_⟩
  have ea : its.toArray ++ its2.toArray = (its ++ its2).toArray := by simp
  rw [ea]
  exact ⟨.ref _, _, I.lnew (t' := s.toks) (r.append r2) (by rw [List.length_append]; omega), rfl, q _ I.fresh⟩
def rRepL (K : PySem.W.Frag) : R2 := fun x y H Q => ∃ l k xs, x = .ref l ∧ y = .int k ∧ SqL K H l xs ∧ -(2 ^ 63) ≤ k ∧ k < 2 ^ 63 ∧ xs.length * k.toNat ≤ sizeLine ∧
  ∀ p, H p = none → Q (.ref p) (upd H p (.lst (List.replicate k.toNat xs).flatten))
theorem op_repL : OpR X (binaryOp .Mult) (rRepL X.K) := by
  intro pins s σ H x y v u Q I rx ry h
  obtain ⟨l, k, xs, rfl, rfl, hH, h1, h2, hz, q⟩ := h
  cases rx
  obtain ⟨t, rfl⟩ := ry
  obtain ⟨its, r, ⟨⟨cls, dd, data, sl⟩, n, e, hc, hd0, hd⟩, z⟩ := I.list hH
  simp only at hc hd
  subst hc hd
  have hl := r.length
  have hlen : its.toArray.size * k.toNat ≤ sizeLine := by rw [List.size_toArray, ← hl]; exact hz
  have hcap : ¬ its.toArray.size * k.toNat > (2 ^ 63 - 1) / 8 := by
    have : (sizeLine : Nat) ≤ (2 ^ 63 - 1) / 8 := by decide
    omega
  have hfit : ¬ (!Builtin.List.listFitsIndex k) = true := by
    rw [fitsIndex_both h1 h2]
    exact Bool.false_ne_true
  have hlong : ¬ Builtin.List.listTooLong (its.toArray.size * k.toNat) = true := by
    rw [notLongL hlen]
    exact Bool.false_ne_true
  have hnew : List.foldl (fun x1 x2 => x1 ++ x2) #[] (List.replicate (if its.toArray.isEmpty = true then 0 else k.toNat) its.toArray) = (List.replicate k.toNat its).flatten.toArray := by
    have f0 : ∀ m : Nat, List.foldl (fun x1 x2 => x1 ++ x2) #[] (List.replicate m its.toArray) = (List.replicate m its).flatten.toArray := fun m => by
      have := foldl_rep its m []
      rw [List.nil_append] at this
      exact this
    rw [f0]
    cases its with
    | nil => simp
    | cons a r' => rw [if_neg (by simp)]
  have hflat : (List.replicate k.toNat its).flatten.length = its.length * k.toNat := by rw [PyProof.Rows.lm_len_rep_flat, Nat.mul_comm]
  refine wpAny_binaryOp_repeat_ref (T := "list") (U := "int") (by decide) ⟨_, e, rfl⟩ (fun s' => typeIs_int s' k t) noFill_list_mul F.fills_int_mul F.slot_int_rmul repeat_list F.slot_int_index.lookup
    (call_meets F.slot_int_rmul (typeIs_int s k t) F.entry_int_rmul (F.args_int_rmul_2 _ _) (int_rmul_listW k t l its.toArray n dd sl)
      ⟨e, rfl, ⟨_, e, rfl⟩, call_meets F.slot_list_mul ⟨_, e, rfl⟩ F.entry_list_mul (F.args_list_mul_2 _ _) (list_mulW l its.toArray n dd sl k t hfit hcap hlong (by rw [hnew, List.size_toArray, hflat, ← hl]; exact hz)) ⟨e, ?_⟩⟩)
  rw [hnew]
  exact ⟨.ref _, _, I.lnew (t' := s.toks) (r.rep k.toNat) (by rw [PyProof.Rows.lm_len_rep_flat, Nat.mul_comm]; exact hz), rfl, q _ I.fresh⟩
theorem ops_mul : OpS X (binaryOp .Mult) (bopV .mul) := by
  refine ⟨_, (op_mul).or op_repL, fun G H d e x y z own Q s r1 r2 eg q => ?_⟩
  cases d <;> cases e <;> simp only [bopV] at eg <;> first | cases eg | (split at eg <;> first | cases eg | skip)
  · rename_i i j h
    exact .inl ⟨i, j, r1.int, r2.int, (h.elim (fun h => .inl ⟨by omega, by omega⟩) fun h => .inr ⟨by omega, by omega⟩), q _ _ _ (vn_val s (.int _))⟩
  · rename_i xs j h
    obtain ⟨a, vs, rfl, hl, hz, hr⟩ := r1.list s
    rw [hr.length] at h
    exact .inr ⟨a, j, vs, rfl, r2.int, hl, (by omega), (by omega), h.2, fun p n => q _ _ _ (vn_lst s n (hr.rep j.toNat) (by rw [PyProof.Rows.lm_len_rep_flat, Nat.mul_comm]; exact h.2))⟩
theorem ops_add : OpS X (binaryOp .Add) (bopV .add) := by
  refine ⟨_, ((op_add).or op_add_str).or ((op_catA).or op_catL), fun G H d e x y z own Q s r1 r2 eg q => ?_⟩
  cases d <;> cases e <;> simp only [bopV] at eg <;> first | cases eg | (split at eg <;> first | cases eg | skip)
  · rename_i i j
    exact .inl (.inl ⟨i, j, r1.int, r2.int, q _ _ _ (vn_val s (.int _))⟩)
  · rename_i i j h
    exact .inl (.inr ⟨i, j, r1.str, r2.str, h, q _ _ _ (vn_val s (.str _))⟩)
  · rename_i xs ys h
    obtain ⟨a, vs, rfl, hl, hz, hr⟩ := r1.list s
    obtain ⟨b, ws, rfl, hl2, hz2, hr2⟩ := r2.list s
    rw [hr.length, hr2.length] at h
    exact .inr (.inr ⟨a, b, vs, ws, rfl, rfl, hl, hl2, h, fun p n => q _ _ _ (vn_lst s n (hr.append hr2) (by rw [List.length_append]; exact h))⟩)
  · rename_i xs ys h
    obtain ⟨a, vs, rfl, hl, hz, hr⟩ := r1.tuple s
    obtain ⟨b, ws, rfl, hl2, hz2, hr2⟩ := r2.tuple s
    have pa : PR X.K G (.tuple xs) (.ref a) := by
      rcases r1 with r1 | ⟨_, _, c⟩
      · exact r1
      · exact False.elim c
    have pb : PR X.K G (.tuple ys) (.ref b) := by
      rcases r2 with r2 | ⟨_, _, c⟩
      · exact r2
      · exact False.elim c
    rw [hr.length, hr2.length] at h
    refine .inr (.inl ⟨a, b, vs, ws, rfl, rfl, hl, hl2, h, fun e => ?_, fun _ e => ?_, fun _ _ p n => q _ _ _ (vn_tup s n (hr.append hr2) (by rw [List.length_append]; exact h))⟩)
    · subst e
      have := hr.length
      have : xs = [] := List.eq_nil_of_length_eq_zero this
      subst this
      exact q _ _ _ (vn_val s pb)
    · subst e
      have := hr2.length
      have : ys = [] := List.eq_nil_of_length_eq_zero this
      subst this
      rw [List.append_nil] at q
      exact q _ _ _ (vn_val s pa)
theorem ops_b (o : BOp) : OpS X (binaryOp (opB o)) (bopV o) := by
  cases o
  · exact ops_add
  · exact ops_sub
  · exact ops_mul
  · exact ops_fdiv
  · exact ops_mod
  · exact ops_pow
/-! ### comparisons -/
def opC : COp → CmpOp
  | .eq => .Eq | .ne => .NotEq | .lt => .Lt | .le => .LtE | .gt => .Gt | .ge => .GtE | .is_ => .Is | .isnot => .IsNot | .isin => .In | .notin => .NotIn
def copB (o : COp) (d e : PyData) : Option (PyData × Bool) := match copV o d e with
  | some z => some (.bool z, false)
  | none => none
/-- a comparison by its readings -/
def CmpS (X : Cx) (f : Value → Value → Sem Value) (g : PyData → PyData → Option Bool) : Prop :=
  ∃ r, OpR X f r ∧ ∀ (G H : Hp) (d e : PyData) (x y : V) (z : Bool) (Q : VK), Same G H → RR X.K G H d x → RR X.K G H e y → g d e = some z → Q (.bl z) H → r x y H Q
theorem CmpS.op {f : Value → Value → Sem Value} {o : COp} (h : CmpS X f (copV o)) : OpS X f (copB o) := by
  obtain ⟨r, hr, h⟩ := h
  refine ⟨r, hr, fun G H d e x y z own Q s r1 r2 eg q => ?_⟩
  unfold copB at eg
  split at eg
  · rename_i b hb
    cases eg
    exact h G H d e x y b Q s r1 r2 hb (q _ _ _ (vn_val s (.bl b)))
  · cases eg
theorem dp_of {K : PySem.W.Frag} {G H : Hp} {d : PyData} {x : V} (s : Same G H) (r : RR K G H d x) (c : d.canLay0 = true) : Dp K H x d := (r.prH s).dp c
def rEqM (K : PySem.W.Frag) (neg : Bool) : R2 := fun x y H Q => ∃ d e, Dp K H x d ∧ Dp K H y e ∧ d.canLay0 = true ∧ e.canLay0 = true ∧ min d.depth e.depth ≤ 64 ∧ Q (.bl (if neg then !PyData.eqv d e else PyData.eqv d e)) H
theorem op_eqM (hu : X.A.units + 65 < cLine) : OpR X (compareOp .Eq) (rEqM X.K false) := by
  intro pins s σ H x y v u Q I rx ry h
  obtain ⟨d, e, hd, he, sd, se, hm, q⟩ := h
  obtain ⟨as, r1⟩ := Dp.reads I d x v hd rx
  obtain ⟨bs, r2⟩ := Dp.reads I e y u he ry
  exact SeqAt.compareEq_reads r1 r2 sd se (by omega) ⟨.bl _, H, I, rfl, q⟩
theorem op_neM (hu : X.A.units + 65 < cLine) : OpR X (compareOp .NotEq) (rEqM X.K true) := by
  intro pins s σ H x y v u Q I rx ry h
  obtain ⟨d, e, hd, he, sd, se, hm, q⟩ := h
  obtain ⟨as, r1⟩ := Dp.reads I d x v hd rx
  obtain ⟨bs, r2⟩ := Dp.reads I e y u he ry
  exact SeqAt.compareNe_reads r1 r2 sd se (by omega) ⟨.bl _, H, I, rfl, q⟩
def rEqL (K : PySem.W.Frag) (neg : Bool) : R2 := fun x y H Q => ∃ a b vs ws, x = .ref a ∧ y = .ref b ∧ SqL K H a vs ∧ SqL K H b ws ∧ vs.length ≠ ws.length ∧ Q (.bl neg) H
theorem op_eqL (hu : X.A.units + 65 < cLine) : OpR X (compareOp .Eq) (rEqL X.K false) := by
  intro pins s σ H x y v u Q I rx ry h
  obtain ⟨a, b, vs, ws, rfl, rfl, h1, h2, hne, q⟩ := h
  cases rx
  cases ry
  obtain ⟨its, r1, p1, _⟩ := I.list h1
  obtain ⟨jts, r2, p2, _⟩ := I.list h2
  have e1 := r1.length
  have e2 := r2.length
  exact SeqAt.eq_list_lengthsAt p1.isList p2.isList (by simp only [List.size_toArray, bne_iff_ne, ne_eq]; omega) (by omega) ⟨.bl false, H, I, rfl, q⟩
theorem op_neL (hu : X.A.units + 65 < cLine) : OpR X (compareOp .NotEq) (rEqL X.K true) := by
  intro pins s σ H x y v u Q I rx ry h
  obtain ⟨a, b, vs, ws, rfl, rfl, h1, h2, hne, q⟩ := h
  cases rx
  cases ry
  obtain ⟨its, r1, p1, _⟩ := I.list h1
  obtain ⟨jts, r2, p2, _⟩ := I.list h2
  have e1 := r1.length
  have e2 := r2.length
  have := SeqAt.RcNeAt.lists_lengths (A := X.A) p1.isList p2.isList (by simp only [List.size_toArray, bne_iff_ne, ne_eq]; omega) (by omega)
  exact this _ _ _ _ ⟨.bl true, H, I, rfl, q⟩
theorem cmp_eq (hu : X.A.units + 65 < cLine) : CmpS X (compareOp .Eq) (copV .eq) := by
  refine ⟨_, op_eq.or ((op_eqM hu).or (op_eqL hu)), fun G H d e x y z Q s r1 r2 eg q => ?_⟩
  simp only [copV] at eg
  unfold pyEq at eg
  split at eg <;> first
    | (cases eg; first
        | (rw [r1.int, r2.int]; refine .inl ⟨rfl, ?_⟩; rw [dec_int]; exact q)
        | (rw [r1.str, r2.str]; refine .inl ⟨rfl, ?_⟩; rw [dec_str]; exact q)
        | (rw [r1.bl, r2.bl]; refine .inl ⟨rfl, ?_⟩; rw [dec_bl]; exact q)
        | (rw [r1.non, r2.non]; exact .inl ⟨rfl, q⟩)
        | (rw [r1.non, r2.int]; exact .inl ⟨rfl, q⟩)
        | (rw [r1.non, r2.str]; exact .inl ⟨rfl, q⟩)
        | (rw [r1.non, r2.bl]; exact .inl ⟨rfl, q⟩)
        | (rw [r1.int, r2.non]; exact .inl ⟨rfl, q⟩)
        | (rw [r1.str, r2.non]; exact .inl ⟨rfl, q⟩)
        | (rw [r1.bl, r2.non]; exact .inl ⟨rfl, q⟩)
        | (rw [r1.int, r2.str]; exact .inl ⟨rfl, q⟩)
        | (rw [r1.str, r2.int]; exact .inl ⟨rfl, q⟩)
        | (rw [r1.bl, r2.str]; exact .inl ⟨rfl, q⟩)
        | (rw [r1.str, r2.bl]; exact .inl ⟨rfl, q⟩))
    | (split at eg
       · rename_i hc
         cases eg
         first
           | (obtain ⟨a, vs, rfl, hl, hz, hr⟩ := r1.list s
              obtain ⟨b, ws, rfl, hl2, hz2, hr2⟩ := r2.list s
              exact .inr (.inr ⟨a, b, vs, ws, rfl, rfl, hl, hl2, by rw [← hr.length, ← hr2.length]; exact hc, q⟩))
           | (simp only [Bool.and_eq_true, decide_eq_true_eq] at hc
              exact .inr (.inl ⟨_, _, dp_of s r1 hc.1.1, dp_of s r2 hc.1.2, hc.1.1, hc.1.2, hc.2, q⟩))
       · first
           | (cases eg; done)
           | (split at eg
              · rename_i hc
                cases eg
                simp only [Bool.and_eq_true, decide_eq_true_eq] at hc
                exact .inr (.inl ⟨.list _, .list _, dp_of s r1 hc.1.1, dp_of s r2 hc.1.2, hc.1.1, hc.1.2, hc.2, q⟩)
              · cases eg))
theorem cmp_ne (hu : X.A.units + 65 < cLine) : CmpS X (compareOp .NotEq) (copV .ne) := by
  refine ⟨_, op_ne.or ((op_neM hu).or (op_neL hu)), fun G H d e x y z Q s r1 r2 eg q => ?_⟩
  simp only [copV] at eg
  split at eg
  · rename_i b hb
    cases eg
    unfold pyEq at hb
    split at hb <;> first
      | (cases hb; first
          | (rw [r1.int, r2.int]; refine .inl ⟨rfl, ?_⟩; rw [dec_int]; exact q)
          | (rw [r1.str, r2.str]; refine .inl ⟨rfl, ?_⟩; rw [dec_str]; exact q)
          | (rw [r1.bl, r2.bl]; refine .inl ⟨rfl, ?_⟩; rw [dec_bl]; exact q)
          | (rw [r1.non, r2.non]; exact .inl ⟨rfl, q⟩)
          | (rw [r1.non, r2.int]; exact .inl ⟨rfl, q⟩)
          | (rw [r1.non, r2.str]; exact .inl ⟨rfl, q⟩)
          | (rw [r1.non, r2.bl]; exact .inl ⟨rfl, q⟩)
          | (rw [r1.int, r2.non]; exact .inl ⟨rfl, q⟩)
          | (rw [r1.str, r2.non]; exact .inl ⟨rfl, q⟩)
          | (rw [r1.bl, r2.non]; exact .inl ⟨rfl, q⟩)
          | (rw [r1.int, r2.str]; exact .inl ⟨rfl, q⟩)
          | (rw [r1.str, r2.int]; exact .inl ⟨rfl, q⟩)
          | (rw [r1.bl, r2.str]; exact .inl ⟨rfl, q⟩)
          | (rw [r1.str, r2.bl]; exact .inl ⟨rfl, q⟩))
      | (split at hb
         · rename_i hc
           cases hb
           first
             | (obtain ⟨a, vs, rfl, hl, hz, hr⟩ := r1.list s
                obtain ⟨b, ws, rfl, hl2, hz2, hr2⟩ := r2.list s
                exact .inr (.inr ⟨a, b, vs, ws, rfl, rfl, hl, hl2, by rw [← hr.length, ← hr2.length]; exact hc, q⟩))
             | (simp only [Bool.and_eq_true, decide_eq_true_eq] at hc
                exact .inr (.inl ⟨_, _, dp_of s r1 hc.1.1, dp_of s r2 hc.1.2, hc.1.1, hc.1.2, hc.2, q⟩))
         · first
             | (cases hb; done)
             | (split at hb
                · rename_i hc
                  cases hb
                  simp only [Bool.and_eq_true, decide_eq_true_eq] at hc
                  exact .inr (.inl ⟨.list _, .list _, dp_of s r1 hc.1.1, dp_of s r2 hc.1.2, hc.1.1, hc.1.2, hc.2, q⟩)
                · cases hb))
  · cases eg
def rInM (K : PySem.W.Frag) (neg : Bool) : R2 := fun x y H Q => ∃ d ds, Dp K H x d ∧ (Dp K H y (.list ds) ∨ Dp K H y (.tuple ds)) ∧ d.canLay0 = true ∧ PyData.canLayAll0 ds = true ∧ min (PyData.depthAll ds) d.depth ≤ 64 ∧ Q (.bl (if neg then !(ds.any fun z => PyData.eqv z d) else ds.any fun z => PyData.eqv z d)) H
theorem op_inM (hu : X.A.units + 66 < cLine) : OpR X (compareOp .In) (rInM X.K false) := by
  intro pins s σ H x y v u Q I rx ry h
  obtain ⟨d, ds, hd, he, sd, se, hm, q⟩ := h
  obtain ⟨as, r1⟩ := Dp.reads I d x v hd rx
  rcases he with he | he
  · obtain ⟨bs, r2⟩ := Dp.reads I _ y u he ry
    exact SeqAt.in_list_reads r2 r1 se sd (by omega) ⟨.bl _, H, I, rfl, q⟩
  · obtain ⟨bs, r2⟩ := Dp.reads I _ y u he ry
    exact SeqAt.in_tuple_reads r2 r1 se sd (by omega) ⟨.bl _, H, I, rfl, q⟩
theorem op_notInM (hu : X.A.units + 66 < cLine) : OpR X (compareOp .NotIn) (rInM X.K true) := by
  intro pins s σ H x y v u Q I rx ry h
  obtain ⟨d, ds, hd, he, sd, se, hm, q⟩ := h
  obtain ⟨as, r1⟩ := Dp.reads I d x v hd rx
  rcases he with he | he
  · obtain ⟨bs, r2⟩ := Dp.reads I _ y u he ry
    exact SeqAt.notIn_list_reads r2 r1 se sd (by omega) ⟨.bl _, H, I, rfl, q⟩
  · obtain ⟨bs, r2⟩ := Dp.reads I _ y u he ry
    exact SeqAt.notIn_tuple_reads r2 r1 se sd (by omega) ⟨.bl _, H, I, rfl, q⟩
theorem pyIn_dp {G H : Hp} {d e : PyData} {x y : V} {z : Bool} (s : Same G H) (r1 : RR X.K G H d x) (r2 : RR X.K G H e y) (h : pyIn d e = some z) :
    ∃ ds, Dp X.K H x d ∧ (Dp X.K H y (.list ds) ∨ Dp X.K H y (.tuple ds)) ∧ d.canLay0 = true ∧ PyData.canLayAll0 ds = true ∧ min (PyData.depthAll ds) d.depth ≤ 64 ∧ z = ds.any fun w => PyData.eqv w d := by
  unfold pyIn at h
  split at h
  · rename_i ds
    split at h
    · rename_i hc
      cases h
      simp only [Bool.and_eq_true, decide_eq_true_eq] at hc
      exact ⟨ds, dp_of s r1 hc.1.2, .inl (dp_of s r2 (by simpa [PyData.canLay0] using hc.1.1)), hc.1.2, hc.1.1, hc.2, rfl⟩
    · cases h
  · rename_i ds
    split at h
    · rename_i hc
      cases h
      simp only [Bool.and_eq_true, decide_eq_true_eq] at hc
      exact ⟨ds, dp_of s r1 hc.1.2, .inr (dp_of s r2 (by simpa [PyData.canLay0] using hc.1.1)), hc.1.2, hc.1.1, hc.2, rfl⟩
    · cases h
  · cases h
theorem cmp_in (hu : X.A.units + 66 < cLine) : CmpS X (compareOp .In) (copV .isin) := by
  refine ⟨_, op_inM hu, fun G H d e x y z Q s r1 r2 eg q => ?_⟩
  simp only [copV] at eg
  obtain ⟨ds, h1, h2, h3, h4, h5, rfl⟩ := pyIn_dp s r1 r2 eg
  exact ⟨d, ds, h1, h2, h3, h4, h5, q⟩
theorem cmp_notin (hu : X.A.units + 66 < cLine) : CmpS X (compareOp .NotIn) (copV .notin) := by
  refine ⟨_, op_notInM hu, fun G H d e x y z Q s r1 r2 eg q => ?_⟩
  simp only [copV] at eg
  split at eg
  · rename_i b hb
    cases eg
    obtain ⟨ds, h1, h2, h3, h4, h5, rfl⟩ := pyIn_dp s r1 r2 hb
    exact ⟨d, ds, h1, h2, h3, h4, h5, q⟩
  · cases eg
theorem cmp_int {f : Value → Value → Sem Value} {p : Int → Int → Bool} {g : PyData → PyData → Option Bool} (h : OpR X f (rI0 fun i j => .bl (p i j))) (hg : ∀ d e z, g d e = some z → ∃ i j, d = .int i ∧ e = .int j ∧ z = p i j) : CmpS X f g := by
  refine ⟨_, h, fun G H d e x y z Q s r1 r2 eg q => ?_⟩
  obtain ⟨i, j, rfl, rfl, rfl⟩ := hg d e z eg
  exact ⟨i, j, r1.int, r2.int, q⟩
theorem cmp_le : CmpS X (compareOp .LtE) (copV .le) := cmp_int op_le fun d e z h => by
  cases d <;> cases e <;> simp [copV] at h
  exact ⟨_, _, rfl, rfl, h.symm⟩
theorem cmp_gt : CmpS X (compareOp .Gt) (copV .gt) := cmp_int op_gt fun d e z h => by
  cases d <;> cases e <;> simp [copV] at h
  exact ⟨_, _, rfl, rfl, h.symm⟩
theorem cmp_ge : CmpS X (compareOp .GtE) (copV .ge) := cmp_int op_ge fun d e z h => by
  cases d <;> cases e <;> simp [copV] at h
  exact ⟨_, _, rfl, rfl, h.symm⟩
theorem cmp_lt (hu : X.A.units + 65 < cLine) : CmpS X (compareOp .Lt) (copV .lt) := by
  refine ⟨_, op_lt.or (op_ltT (by omega)), fun G H d e x y z Q s r1 r2 eg q => ?_⟩
  cases d <;> cases e <;> simp only [copV] at eg <;> first | cases eg | skip
  · exact .inl ⟨_, _, r1.int, r2.int, q⟩
  · rename_i xs ys
    split at eg
    · rename_i a b ha hb
      cases eg
      obtain ⟨p, vs, rfl, hl, hz, hr⟩ := r1.tuple s
      obtain ⟨p2, ws, rfl, hl2, hz2, hr2⟩ := r2.tuple s
      rw [hr.of_ints ha] at hl
      rw [hr2.of_ints hb] at hl2
      exact .inr ⟨p, p2, a, b, rfl, rfl, hl, hl2, q⟩
    · cases eg
theorem rr_non {K : PySem.W.Frag} {G H : Hp} {d : PyData} {x : V} (r : RR K G H d x) : decide (x = .non) = (match d with | .none => true | _ => false) := by
  rcases r with r | ⟨a, rfl, c⟩
  · cases r <;> rfl
  · cases d <;> first | exact False.elim c | rfl
theorem cmp_is : CmpS X (compareOp .Is) (copV .is_) := by
  refine ⟨_, op_isN.or op_is_bl, fun G H d e x y z Q s r1 r2 eg q => ?_⟩
  cases e <;> cases d <;> simp only [copV] at eg <;> first | cases eg | skip
  all_goals first
    | (rw [r2.non]; refine .inl ⟨rfl, ?_⟩; rw [rr_non r1]; exact q)
    | (rw [r1.bl, r2.bl]; refine .inr ⟨_, _, rfl, rfl, ?_⟩; rw [← Bool.beq_eq_decide_eq]; exact q)
theorem cmp_isnot : CmpS X (compareOp .IsNot) (copV .isnot) := by
  refine ⟨_, op_notN.or op_isnot_bl, fun G H d e x y z Q s r1 r2 eg q => ?_⟩
  cases e <;> cases d <;> simp only [copV] at eg <;> first | cases eg | skip
  all_goals first
    | (rw [r2.non]; refine .inl ⟨rfl, ?_⟩; rw [rr_non r1]; exact q)
    | (rw [r1.bl, r2.bl]; refine .inr ⟨_, _, rfl, rfl, ?_⟩; rw [← Bool.beq_eq_decide_eq]; exact q)
theorem cmp_s (hu : X.A.units + 66 < cLine) (o : COp) : CmpS X (compareOp (opC o)) (copV o) := by
  cases o
  · exact cmp_eq (by omega)
  · exact cmp_ne (by omega)
  · exact cmp_lt (by omega)
  · exact cmp_le
  · exact cmp_gt
  · exact cmp_ge
  · exact cmp_is
  · exact cmp_isnot
  · exact cmp_in hu
  · exact cmp_notin hu
end
end VI
set_option maxRecDepth 100000
set_option maxHeartbeats 4000000
/-! VI: slices turned about, calls of builtins, displays. -/
namespace VI
open PySem PySem.Spec PyProof.Rows L2
section
variable {prog : Program} {w : World} {A : Around} {E : Value → Shared → Prop} {s : Shared}
theorem pick_rev (xs : Array Value) : ((List.range xs.size).filterMap fun (k : Nat) => xs[(((xs.size : Nat) : Int) - 1 + (k : Int) * -1).toNat]?).toArray = xs.toList.reverse.toArray := by
  have e : ((List.range xs.size).filterMap fun (k : Nat) => xs[(((xs.size : Nat) : Int) - 1 + (k : Int) * -1).toNat]?) = ((List.range xs.size).map fun k => xs.size - 1 - k).filterMap (xs[·]?) := by
    rw [List.filterMap_map]
    congr 1
    funext k
    have : (((xs.size : Nat) : Int) - 1 + (k : Int) * -1).toNat = xs.size - 1 - k := by omega
    show xs[(((xs.size : Nat) : Int) - 1 + (k : Int) * -1).toNat]? = xs[xs.size - 1 - k]?
    rw [this]
  rw [e, PySem.W.krv_range, List.filterMap_reverse, PySem.W.krv_all]
theorem sliceApplied_rev {sl : Addr} {vk : Value} {n : Nat} {Q : Int × Int × Nat → Shared → Prop} (hs : s.heap.IsSliceOf sl .none .none vk) (pk : IsPart vk (some (-1)))
    (h : Q ((n : Int) - 1, -1, n) s) : wpAny (model prog w) A (Builtin.Slice.sliceApplied (.ref sl) (pure (n : Int))) Q E s := by
  obtain ⟨os, hos, hcs, hds⟩ := id hs
  unfold Builtin.Slice.sliceApplied Builtin.Slice.sliceFields
  refine wpAny_bind (wpAny_bind (wpAny_field hos hds (x := .none) rfl (wpAny_bind (wpAny_field hos hds (x := .none) rfl (wpAny_bind (wpAny_field hos hds (x := vk) rfl (wpAny_pure ?_)))))))
  refine wpAny_bind (HT.slicePart_ pk ?_)
  show wpAny _ _ (if ((-1 : Int) == 0) = true then _ else _) _ _ s
  rw [if_neg (by decide)]
  refine wpAny_bind (HT.slicePart_ .none (wpAny_bind (HT.slicePart_ .none (wpAny_bind (wpAny_pure ?_)))))
  show wpAny _ _ (pure ((n : Int) - 1, (-1 : Int), Builtin.Slice.slicePlaces ((n : Int) - 1) (-1) (-1))) _ _ s
  have e : Builtin.Slice.slicePlaces ((n : Int) - 1) (-1) (-1) = n := by
    unfold Builtin.Slice.slicePlaces
    rw [if_neg (by decide)]
    by_cases h0 : n = 0
    · subst h0
      rfl
    · rw [if_pos (by omega)]
      have : ((n : Int) - 1 - -1 - 1) / (- -1) + 1 = n := by
        rw [show (- -1 : Int) = 1 by decide, Int.ediv_one]
        omega
      rw [this]
      rfl
  rw [e]
  exact wpAny_pure h
theorem getItem_tuple_rev {t sl : Addr} {items : Array Value} {vk : Value} {Q : Value → Shared → Prop} (ht : IsTup s.heap t items) (hs : s.heap.IsSliceOf sl .none .none vk) (pk : IsPart vk (some (-1)))
    (h : Q (.ref s.heap.objs.size) { s with heap := s.heap.push { cls := .type "tuple", data := .seq items.toList.reverse.toArray } })
    (hsz : items.size ≤ sizeLine) : wpAny (model prog w) A (getItem (.ref t) (.ref sl)) Q E s := by
  have htake : sizeOk (.seq items.toList.reverse.toArray) := by
    show items.toList.reverse.toArray.size ≤ sizeLine
    rw [List.size_toArray, List.length_reverse, Array.length_toList]
    omega
  obtain ⟨os, hos, hcs, hds⟩ := id hs
  have hTs : s.TypeIs (.ref sl) "slice" := ⟨os, hos, hcs⟩
  unfold getItem
  try with_reducible refine wpAny_holding ?_
  first | refine wpAny_bind (wpAny_pure ?_) | skip
  refine wpAny_bind (wpAny_sequenceKey ht.typeIs (by decide) ?_)
  refine wpAny_bind (wpAny_callSpecial?_slot (name := Str.ofString "__getitem__") ht.typeIs PyProof.Rows.slot_tuple_getitem
    (wpAny_call_entry PyProof.Rows.slot_tuple_getitem ht.typeIs entry_tuple_getitem ?_ (args_tuple_getitem _ _)))
  show wpAny _ _ (Builtin.Tuple.tupleItemsOf (.ref t) >>= _) _ _ s
  refine wpAny_bind (tupleItemsOf_ ht ?_)
  refine wpAny_bind (wpAny_typeOf hTs ?_)
  rw [if_pos (by decide)]
  refine wpAny_bind (sliceApplied_rev hs pk ?_)
  have hno : ¬ (((((items.size : Nat) : Int) - 1) == 0 && (-1 : Int) == 1 && items.size == items.size) = true) := by
    intro q
    rw [Bool.and_eq_true, Bool.and_eq_true] at q
    exact absurd q.1.2 (by decide)
  show wpAny _ _ (if ((((items.size : Nat) : Int) - 1) == 0 && (-1 : Int) == 1 && items.size == items.size) = true then _ else _) _ _ s
  rw [if_neg hno, pick_rev]
  first
    | exact wpAny_bind (m := Builtin.Tuple.tupleExact _) (wpAny_newObj_type (wpAny_pure ⟨_, rfl, wpAny_pure h⟩) htake)
    | exact wpAny_bind (m := Builtin.Tuple.tupleExact _) (wpAny_newObj_type (wpAny_bind (wpAny_pure (wpAny_pure ⟨_, rfl, wpAny_pure h⟩))) htake)
    | exact wpAny_bind (wpAny_bind (m := Builtin.Tuple.tupleExact _) (wpAny_newObj_type (wpAny_pure (wpAny_pure ⟨_, rfl, wpAny_pure h⟩)) htake))
    | exact wpAny_bind (wpAny_bind (m := Builtin.Tuple.tupleExact _) (wpAny_newObj_type (wpAny_pure ⟨_, rfl, wpAny_pure h⟩) htake))
end
theorem Vals.rev : ∀ {xs : List V} {us : List Value}, Vals xs us → Vals xs.reverse us.reverse
  | _, _, .nil => .nil
  | _, _, .cons r t => by
    rw [List.reverse_cons, List.reverse_cons]
    exact (Vals.rev t).append (.cons r .nil)
section
variable {X : Cx} {a b e o : Expr} {pos p2 p3 p4 : Pos} {k : Nat}
def tRev (K : PySem.W.Frag) (ta : TE) : TE := fun σ H Q => ta σ H fun x H1 => ∃ a xs, x = .ref a ∧
  ((SqL K H1 a xs ∧ ∀ p, H1 p = none → Q (.ref p) (upd H1 p (.lst xs.reverse))) ∨ (SqT K H1 a xs ∧ ∀ p, H1 p = none → Q (.ref p) (upd H1 p (.tup xs.reverse))))
theorem pe_rev {ta : TE} (he : PE X e ta) : PE X (.Subscript e (.Slice none none (some (.UnaryOp .USub (.Constant (.int 1) k p4) p3)) p2) pos) (tRev X.K ta) := by
  have h1 : PE X (.UnaryOp .USub (.Constant (.int 1) k p4) p3) (tUn (rU fun i => .int (-i)) (tC (.int 1))) := pe_un un_neg pe_int
  refine ⟨fun pins s σ H Q I h => ?_⟩
  refine Subscript_ (thn (he.run pins s σ H _ I h) fun v s1 ⟨x, H1, I1, r1, a, xs, ex, q1⟩ => ?_)
  subst ex
  cases r1
  refine wpAny_Slice ?_
  rw [evalPart_none]
  refine wpAny_pure ?_
  refine wpAny_pure ?_
  refine thn ((po_some h1).run pins s1 σ H1 (fun o H2 => o = some (-1) ∧ H2 = H1) I1 ⟨1, rfl, -1, rfl, rfl, rfl⟩) fun vk s2 ⟨o, H2, I2, pk, eo, eH⟩ => ?_
  subst eo
  subst eH
  have I4 : Inv X pins σ H2 { s2 with heap := s2.heap.push { cls := .type "slice", data := .fields #[.none, .none, vk] } } := I2.kept (t' := s2.toks) fun b ob q => Heap.get?_push_of_some _ q
  show wpAny (model X.prog X.w) X.A (subscriptTail e (.Slice none none (some (.UnaryOp .USub (.Constant (.int 1) k p4) p3)) p2) (.ref a) (.ref s2.heap.objs.size)) (EP X pins σ Q) X.xe { s2 with heap := s2.heap.push { cls := .type "slice", data := .fields #[.none, .none, vk] } }
  rcases q1 with ⟨hx, q⟩ | ⟨hx, q⟩
  · obtain ⟨its, r, ht, hz⟩ := I4.list hx
    have hlen := r.length
    refine tail_any (T := "list") (ops := [.ref a, .ref s2.heap.objs.size]) ht.isList.typeIs slot_list_getitem.lookup ?_ (by with_unfolding_all rfl)
    refine wpAny_getItem_list_slice ht.isList (Heap.IsSliceOf.new ..) .none .none pk (by decide) ?_ (by rw [List.size_toArray] <;> omega)
    rw [PySem.W.krv_pick]
    refine ⟨.ref _, _, I4.laid (t' := s2.toks) (o := .lst xs.reverse) (fun b ob q => Heap.get?_push_of_some _ q) (Nat.le_refl _) ?_, rfl, q _ (I4.hok.fresh (Nat.le_refl _))⟩
    exact ⟨by rw [List.length_reverse]; exact hz, _, 0, Vals.rev r, Heap.get?_push_size _ rfl⟩
  · obtain ⟨its, r, ht, hz⟩ := I4.tuple hx
    have hlen := r.length
    refine tail_any (T := "tuple") (ops := [.ref a, .ref s2.heap.objs.size]) ht.typeIs PyProof.Rows.slot_tuple_getitem.lookup ?_ (by with_unfolding_all rfl)
    refine getItem_tuple_rev ht (Heap.IsSliceOf.new ..) pk ?_ (by rw [List.size_toArray] <;> omega)
    refine ⟨.ref _, _, I4.laid (t' := s2.toks) (o := .tup xs.reverse) (fun b ob q => Heap.get?_push_of_some _ q) (Nat.le_refl _) ?_, rfl, q _ (I4.hok.fresh (Nat.le_refl _))⟩
    exact ⟨by rw [List.length_reverse]; exact hz, _, Vals.rev r, IsTup.new _ _⟩
end
end VI
set_option maxRecDepth 100000
set_option maxHeartbeats 4000000
/-! VI: builtins by values. -/
namespace VI
open PySem PySem.Spec PyProof.Rows L2
/-! ### sorting -/
theorem insI_perm (a : Int) : ∀ l : List Int, (insI a l).Perm (a :: l)
  | [] => List.Perm.refl _
  | b :: r => by
    unfold insI
    split
    · exact List.Perm.refl _
    · exact ((insI_perm a r).cons b).trans (List.Perm.swap a b r)
theorem isort_perm : ∀ l : List Int, (isort l).Perm l
  | [] => List.Perm.refl _
  | a :: r => (insI_perm a (isort r)).trans ((isort_perm r).cons a)
theorem insI_sorted (a : Int) : ∀ l : List Int, l.Pairwise (· ≤ ·) → (insI a l).Pairwise (· ≤ ·)
  | [], _ => by simp [insI]
  | b :: r, h => by
    unfold insI
    have h' := List.pairwise_cons.mp h
    split
    · rename_i hab
      refine List.pairwise_cons.mpr ⟨fun x hx => ?_, h⟩
      rcases List.mem_cons.mp hx with e | e
      · rw [e]; exact hab
      · exact Int.le_trans hab (h'.1 x e)
    · rename_i hab
      refine List.pairwise_cons.mpr ⟨fun x hx => ?_, insI_sorted a r h'.2⟩
      have := (insI_perm a r).mem_iff.mp hx
      rcases List.mem_cons.mp this with e | e
      · rw [e]; omega
      · exact h'.1 x e
theorem isort_sorted : ∀ l : List Int, (isort l).Pairwise (· ≤ ·)
  | [] => List.Pairwise.nil
  | a :: r => insI_sorted a _ (isort_sorted r)
theorem sorted_one : ∀ {a b : List Int}, a.Perm b → a.Pairwise (· ≤ ·) → b.Pairwise (· ≤ ·) → a = b
  | [], b, p, _, _ => by rw [List.nil_perm.mp p]
  | x :: a, [], p, _, _ => absurd p.symm (by simp)
  | x :: a, y :: b, p, sa, sb => by
    have ha := List.pairwise_cons.mp sa
    have hb := List.pairwise_cons.mp sb
    have hx : x ∈ y :: b := p.mem_iff.mp List.mem_cons_self
    have hy : y ∈ x :: a := p.mem_iff.mpr List.mem_cons_self
    have e : x = y := by
      rcases List.mem_cons.mp hx with e | e
      · exact e
      · rcases List.mem_cons.mp hy with e' | e'
        · exact e'.symm
        · have := hb.1 x e
          have := ha.1 y e'
          omega
    subst e
    rw [sorted_one ((List.perm_cons x).mp p) ha.2 hb.2]
theorem maxI_spec : ∀ (l : List Int) (m : Int), (∀ y ∈ m :: l, y ≤ maxI m l) ∧ maxI m l ∈ m :: l
  | [], m => by simp [maxI]
  | a :: r, m => by
    have key : ∀ z : Int, m ≤ z → a ≤ z → z = m ∨ z = a → (∀ y ∈ m :: a :: r, y ≤ maxI z r) ∧ maxI z r ∈ m :: a :: r := fun z h1 h2 h3 => by
      obtain ⟨k1, k2⟩ := maxI_spec r z
      have hz := k1 z List.mem_cons_self
      refine ⟨fun y hy => ?_, ?_⟩
      · rcases List.mem_cons.mp hy with e | hy
        · omega
        · rcases List.mem_cons.mp hy with e | hy
          · omega
          · exact k1 y (List.mem_cons_of_mem _ hy)
      · rcases List.mem_cons.mp k2 with e | e
        · rw [e]
          rcases h3 with h3 | h3 <;> simp [h3]
        · exact List.mem_cons_of_mem _ (List.mem_cons_of_mem _ e)
    unfold maxI
    by_cases h : a > m
    · rw [if_pos h]; exact key a (by omega) (by omega) (.inr rfl)
    · rw [if_neg h]; exact key m (by omega) (by omega) (.inl rfl)
theorem minI_spec : ∀ (l : List Int) (m : Int), (∀ y ∈ m :: l, minI m l ≤ y) ∧ minI m l ∈ m :: l
  | [], m => by simp [minI]
  | a :: r, m => by
    have key : ∀ z : Int, z ≤ m → z ≤ a → z = m ∨ z = a → (∀ y ∈ m :: a :: r, minI z r ≤ y) ∧ minI z r ∈ m :: a :: r := fun z h1 h2 h3 => by
      obtain ⟨k1, k2⟩ := minI_spec r z
      have hz := k1 z List.mem_cons_self
      refine ⟨fun y hy => ?_, ?_⟩
      · rcases List.mem_cons.mp hy with e | hy
        · omega
        · rcases List.mem_cons.mp hy with e | hy
          · omega
          · exact k1 y (List.mem_cons_of_mem _ hy)
      · rcases List.mem_cons.mp k2 with e | e
        · rw [e]
          rcases h3 with h3 | h3 <;> simp [h3]
        · exact List.mem_cons_of_mem _ (List.mem_cons_of_mem _ e)
    unfold minI
    by_cases h : a < m
    · rw [if_pos h]; exact key a (by omega) (by omega) (.inr rfl)
    · rw [if_neg h]; exact key m (by omega) (by omega) (.inl rfl)
/-! ### data read in the true heap -/
section
variable {X : Cx} {pins : List (Addr × Obj)} {σ : L2.St} {H : Hp} {s : Shared}
theorem readsAll_keys {kvs : List (Key × Value)} {es : List DictEntry} (h : Pairs (mixKind X.prog X.w) es kvs) : ReadsAll s.heap (es.map (·.key)) (kvs.map fun p => keyD p.1) [] := by
  induction h with
  | nil => exact .nil
  | cons h1 h2 _ ih =>
    rcases keyIs_shape h1 with ⟨i, t, e1, e2⟩ | ⟨i, t, e1, e2⟩
    · rw [List.map_cons, List.map_cons, e2, e1]
      exact .cons (as := []) (.int i t) ih
    · rw [List.map_cons, List.map_cons, e2, e1]
      exact .cons (as := []) (.str i t) ih
theorem pairs_vals {P : Program} {w : World} {kvs : List (Key × Value)} {es : List DictEntry} (h : Pairs (mixKind P w) es kvs) : es.map (·.val) = kvs.map (·.2) := by
  induction h with
  | nil => rfl
  | cons _ h2 _ ih => rw [List.map_cons, List.map_cons, ih, h2]
mutual
theorem PR.reads (I : Inv X pins σ H s) : ∀ {d : PyData} {v : V} {u : Value}, PR X.K H d v → RelV v u → ∃ as, Reads s.heap u d as ∧ (hasList d = false → sysModules ∉ as)
  | _, _, _, .non, r => by cases r; exact ⟨_, .none, fun _ h => nomatch h⟩
  | _, _, _, .bl b, r => by cases r; exact ⟨_, .bool b, fun _ h => nomatch h⟩
  | _, _, _, .int i, r => by obtain ⟨t, rfl⟩ := r; exact ⟨_, .int i t, fun _ h => nomatch h⟩
  | _, _, _, .str x, r => by obtain ⟨t, rfl⟩ := r; exact ⟨_, .str x t, fun _ h => nomatch h⟩
  | _, _, _, .lst h z r, q => by
    cases q
    obtain ⟨its, rv, ⟨o, n, e1, e2, e3, e4⟩, _⟩ := I.list h
    obtain ⟨as, ra, _⟩ := r.reads I rv
    exact ⟨_, .list e1 e2 e4 (by simpa using ra), fun z => by simp [hasList] at z⟩
  | _, _, _, .tup h z r, q => by
    cases q
    obtain ⟨its, rv, ⟨o, e1, e2, n, e4⟩, _⟩ := I.tuple h
    obtain ⟨as, ra, hn⟩ := r.reads I rv
    exact ⟨_, .tuple e1 e2 e4 (by simpa using ra), fun z => hn (by simpa [hasList] using z)⟩
  | _, _, _, .dct h z r, q => by
    cases q
    obtain ⟨_, hs, vs, kv, o, es, ep, e1, e2, e3, _, pr, _⟩ := dk_of I.hok h
    obtain ⟨as, ra, hn, ek⟩ := r.reads I kv
    have h1 := readsAll_keys (X := X) (s := s) pr
    have h2 : es.toList.map (·.val) = vs.map (·.2) := pairs_vals pr
    refine ⟨_, .dict e1 e2.1 e3 (as := []) (bs := as) (by rw [ek]; exact h1) (by rw [h2]; exact ra), fun z => ?_⟩
    intro hm
    rcases List.mem_cons.mp hm with hm | hm
    · rw [← hm] at hs
      exact absurd hs (by simp)
    · exact hn (by simpa [hasList] using z) (by simpa using hm)
theorem PRs.reads (I : Inv X pins σ H s) : ∀ {d : List PyData} {v : List V} {u : List Value}, PRs X.K H d v → Vals v u → ∃ as, ReadsAll s.heap u d as ∧ (hasListA d = false → sysModules ∉ as)
  | _, _, _, .nil, r => by cases r; exact ⟨_, .nil, fun _ h => nomatch h⟩
  | _, _, _, .cons h t, r => by
    cases r with
    | cons r rt =>
      obtain ⟨as, h1, h2⟩ := h.reads I r
      obtain ⟨bs, h3, h4⟩ := t.reads I rt
      refine ⟨_, .cons h1 h3, fun z hm => ?_⟩
      simp only [hasListA, Bool.or_eq_false_iff] at z
      rcases List.mem_append.mp hm with hm | hm
      · exact h2 z.1 hm
      · exact h4 z.2 hm
theorem PRk.reads (I : Inv X pins σ H s) : ∀ {d : List (PyData × PyData)} {v : List (Key × V)} {u : List (Key × Value)}, PRk X.K H d v → KV v u → ∃ as, ReadsAll s.heap (u.map (·.2)) (d.map (·.2)) as ∧ (hasListK d = false → sysModules ∉ as) ∧ d.map (·.1) = u.map fun p => keyD p.1
  | _, _, _, .nil, r => by cases r; exact ⟨_, .nil, fun _ h => (nomatch h), rfl⟩
  | _, _, _, .cons h t, r => by
    cases r with
    | cons r rt =>
      obtain ⟨as, h1, h2⟩ := h.reads I r.2
      obtain ⟨bs, h3, h4, h5⟩ := t.reads I rt
      have e := r.1
      simp only at e
      refine ⟨_, .cons h1 h3, fun z hm => ?_, by rw [List.map_cons, List.map_cons, h5, ← e]⟩
      simp only [hasListK, Bool.or_eq_false_iff] at z
      rcases List.mem_append.mp hm with hm | hm
      · exact h2 z.1 hm
      · exact h4 z.2 hm
end
end
/-! ### calls of builtins by values -/
def CallS (X : Cx) (f : Value) (g : PyData → Option (PyData × Bool)) : Prop :=
  ∃ r, CallR X f r ∧ ∀ (G H : Hp) (d : PyData) (x : V) (z : PyData) (own : Bool) (Q : VK), Same G H → RR X.K G H d x → g d = some (z, own) → (∀ v G' H', VNew X.K G H G' H' z own v → Q v H') → r [x] H Q
section
variable {X : Cx}
theorem cs_len : CallS X (.builtin "len") (biV .len) := by
  refine ⟨_, call_len, fun G H d x z own Q s r eg q => ?_⟩
  cases d <;> simp only [biV] at eg <;> first | cases eg | skip
  · rename_i y
    split at eg
    · rename_i h
      cases eg
      rw [r.str]
      exact ⟨_, _, rfl, ⟨h, rfl⟩, q _ _ _ (vn_val s (.int _))⟩
    · cases eg
  · obtain ⟨a, vs, rfl, hl, hz, hr⟩ := r.list s
    rw [hr.length] at q
    exact ⟨_, _, rfl, .inl ⟨_, hl, rfl⟩, q _ _ _ (vn_val s (.int _))⟩
  · obtain ⟨a, vs, rfl, hl, hz, hr⟩ := r.tuple s
    rw [hr.length] at q
    exact ⟨_, _, rfl, .inr ⟨_, hl, rfl⟩, q _ _ _ (vn_val s (.int _))⟩
theorem cs_abs : CallS X (.builtin "abs") (biV .abs) := by
  refine ⟨_, call_abs, fun G H d x z own Q s r eg q => ?_⟩
  cases d <;> simp only [biV] at eg <;> first | cases eg | skip
  rw [r.int]
  exact ⟨_, rfl, q _ _ _ (vn_val s (.int _))⟩
theorem cs_tuple : CallS X (.type "tuple") (biV .tuple) := by
  refine ⟨_, call_tuple_of, fun G H d x z own Q s r eg q => ?_⟩
  cases d <;> simp only [biV] at eg <;> first | cases eg | skip
  · obtain ⟨a, vs, rfl, hl, hz, hr⟩ := r.list s
    exact ⟨a, vs, rfl, .inl ⟨hl, fun p n => q _ _ _ (vn_tup s n hr hz)⟩⟩
  · obtain ⟨a, vs, e, hl, hz, hr⟩ := r.tuple s
    subst e
    rcases r with r | ⟨_, _, c⟩
    · exact ⟨a, vs, rfl, .inr ⟨hl, q _ _ _ (vn_val s r)⟩⟩
    · exact False.elim c
theorem cs_list : CallS X (.type "list") (biV .list) := by
  refine ⟨_, call_list_of, fun G H d x z own Q s r eg q => ?_⟩
  cases d <;> simp only [biV] at eg <;> first | cases eg | skip
  · obtain ⟨a, vs, rfl, hl, hz, hr⟩ := r.list s
    exact ⟨a, vs, rfl, .inl hl, fun p n => q _ _ _ (vn_lst s n hr hz)⟩
  · obtain ⟨a, vs, rfl, hl, hz, hr⟩ := r.tuple s
    exact ⟨a, vs, rfl, .inr hl, fun p n => q _ _ _ (vn_lst s n hr hz)⟩
theorem cs_all (hc : X.calm = true) : CallS X (.builtin "all") (biV .all) := by
  refine ⟨_, cr_all hc, fun G H d x z own Q s r eg q => ?_⟩
  cases d <;> simp only [biV] at eg <;> first | cases eg | skip
  split at eg
  · rename_i l hb
    cases eg
    obtain ⟨a, vs, rfl, hl, hz, hr⟩ := r.list s
    rw [hr.of_bools hb] at hl
    exact ⟨a, l, rfl, hl, q _ _ _ (vn_val s (.bl _))⟩
  · cases eg
theorem cs_any (hc : X.calm = true) : CallS X (.builtin "any") (biV .any) := by
  refine ⟨_, cr_any hc, fun G H d x z own Q s r eg q => ?_⟩
  cases d <;> simp only [biV] at eg <;> first | cases eg | skip
  split at eg
  · rename_i l hb
    cases eg
    obtain ⟨a, vs, rfl, hl, hz, hr⟩ := r.list s
    rw [hr.of_bools hb] at hl
    exact ⟨a, l, rfl, hl, q _ _ _ (vn_val s (.bl _))⟩
  · cases eg
theorem cs_sum (hc : X.calm = true) : CallS X (.builtin "sum") (biV .sum) := by
  refine ⟨_, cr_sum hc, fun G H d x z own Q s r eg q => ?_⟩
  cases d <;> simp only [biV] at eg <;> first | cases eg | skip
  split at eg
  · rename_i l hb
    cases eg
    obtain ⟨a, vs, rfl, hl, hz, hr⟩ := r.list s
    rw [hr.of_ints hb] at hl
    exact ⟨a, l, rfl, hl, q _ _ _ (vn_val s (.int _))⟩
  · cases eg
/-- sorted's answer -/
theorem vn_sorted {G H : Hp} (s : Same G H) {l ns : List Int} {p : Addr} (hz : l.length ≤ sizeLine) (pm : ns.Perm l) (st : ns.Pairwise (· ≤ ·)) (n : H p = none) : VNew X.K G H G (upd H p (.lst (ns.map V.int))) (.list ((isort l).map .int)) true (.ref p) := by
  have e : ns = isort l := sorted_one (pm.trans (isort_perm l).symm) st (isort_sorted l)
  subst e
  exact vn_lst s n PRs.ints (by rw [List.length_map, (isort_perm l).length_eq]; exact hz)
theorem cs_sortedL : CallS X (.builtin "sorted") (fun d => match d with | .list xs => biV .sorted (.list xs) | _ => none) := by
  refine ⟨_, cr_sortedI, fun G H d x z own Q s r eg q => ?_⟩
  cases d <;> simp only [biV] at eg <;> first | cases eg | skip
  split at eg
  · rename_i l hb
    cases eg
    obtain ⟨a, vs, rfl, hl, hz, hr⟩ := r.list s
    have ev := hr.of_ints hb
    rw [ev] at hl hz
    rw [List.length_map] at hz
    exact ⟨a, l, rfl, hl, fun ns p pm st n => q _ _ _ (vn_sorted s hz pm st n)⟩
  · cases eg
theorem cs_int : CallS X (.type "int") (biV .int) := by
  refine ⟨_, call_int1, fun G H d x z own Q s r eg q => ?_⟩
  cases d <;> simp only [biV] at eg <;> first | cases eg | skip
  · rw [r.bl]
    exact .inr ⟨_, rfl, q _ _ _ (vn_val s (.int _))⟩
  · rw [r.int]
    exact .inl ⟨_, rfl, q _ _ _ (vn_val s (.int _))⟩
theorem cs_str : CallS X (.type "str") (biV .str) := by
  refine ⟨_, call_str_int, fun G H d x z own Q s r eg q => ?_⟩
  cases d <;> simp only [biV] at eg <;> first | cases eg | skip
  split at eg
  · rename_i h
    cases eg
    rw [r.int]
    exact ⟨_, rfl, h, q _ _ _ (vn_val s (.str _))⟩
  · cases eg
theorem cs_maxl (hc : X.calm = true) : CallS X (.builtin "max") (biV .maxl) := by
  refine ⟨_, cr_max hc, fun G H d x z own Q s r eg q => ?_⟩
  cases d <;> simp only [biV] at eg <;> first | cases eg | skip
  rename_i xs
  cases xs with
  | nil => cases eg
  | cons y ys =>
    cases y <;> simp only [biV] at eg <;> first | cases eg | skip
    rename_i i
    split at eg
    · rename_i l hb
      cases eg
      obtain ⟨a, vs, rfl, hl, hz, hr⟩ := r.list s
      have e : vs = (i :: l).map V.int := hr.of_ints (by simp only [intsOf, hb])
      rw [e] at hl
      refine ⟨a, i :: l, rfl, hl, by simp, fun m h1 h2 => ?_⟩
      obtain ⟨k1, k2⟩ := maxI_spec l i
      have : m = maxI i l := by
        have := k1 m h1
        have := h2 _ k2
        omega
      subst this
      exact q _ _ _ (vn_val s (.int _))
    · cases eg
theorem cs_minl (hc : X.calm = true) : CallS X (.builtin "min") (biV .minl) := by
  refine ⟨_, cr_min hc, fun G H d x z own Q s r eg q => ?_⟩
  cases d <;> simp only [biV] at eg <;> first | cases eg | skip
  rename_i xs
  cases xs with
  | nil => cases eg
  | cons y ys =>
    cases y <;> simp only [biV] at eg <;> first | cases eg | skip
    rename_i i
    split at eg
    · rename_i l hb
      cases eg
      obtain ⟨a, vs, rfl, hl, hz, hr⟩ := r.list s
      have e : vs = (i :: l).map V.int := hr.of_ints (by simp only [intsOf, hb])
      rw [e] at hl
      refine ⟨a, i :: l, rfl, hl, by simp, fun m h1 h2 => ?_⟩
      obtain ⟨k1, k2⟩ := minI_spec l i
      have : m = minI i l := by
        have := k1 m h1
        have := h2 _ k2
        omega
      subst this
      exact q _ _ _ (vn_val s (.int _))
    · cases eg
/-- repr of data: nothing that stands changes -/
def rRepr (K : PySem.W.Frag) : List V → Hp → VK → Prop := fun xs H Q => ∃ x d, xs = [x] ∧ PR K H d x ∧ d.showable = true ∧ d.depth ≤ 64 ∧ d.shown.length ≤ sizeLine ∧ (d.hasDict = true → hasList d = false) ∧ Q (.str d.shown) H
theorem call_repr (hg : X.A.guards = some []) (hu : X.A.units + 66 < cLine) : CallR X (.builtin "repr") (rRepr X.K) := by
  intro pins s σ H xs us Q I r h
  obtain ⟨x, d, rfl, p, h1, h2, h3, h4, q⟩ := h
  obtain ⟨u, rfl, rx⟩ := vals1 r
  obtain ⟨as, ra, hn⟩ := p.reads I rx
  cases p with
  | non => cases rx; exact PySem.P.repr_of_none ⟨V.str _, H, I.tok _, ⟨_, rfl⟩, q⟩
  | bl b => cases rx; exact PySem.P.repr_of_bool ⟨V.str _, H, I.tok _, ⟨_, rfl⟩, q⟩
  | int i => obtain ⟨t, rfl⟩ := rx; exact PySem.P.repr_of_int (by simpa [PyData.showable] using h1) ⟨V.str _, H, I.tok _, ⟨_, rfl⟩, q⟩
  | str y => obtain ⟨t, rfl⟩ := rx; exact PySem.P.repr_of_str ⟨V.str _, H, I.tok _, ⟨_, rfl⟩, q⟩ h3
  | lst _ _ _ => cases rx; exact repr_of_reads' ra h1 (fun z => hn (h4 z)) hg (by omega) (fun _ _ e => e) (fun h' u tk hk => ⟨V.str _, H, I.kept (t' := tk) hk, ⟨_, rfl⟩, q⟩) h3
  | tup _ _ _ => cases rx; exact repr_of_reads' ra h1 (fun z => hn (h4 z)) hg (by omega) (fun _ _ e => e) (fun h' u tk hk => ⟨V.str _, H, I.kept (t' := tk) hk, ⟨_, rfl⟩, q⟩) h3
  | dct _ _ _ => cases rx; exact repr_of_reads' ra h1 (fun z => hn (h4 z)) hg (by omega) (fun _ _ e => e) (fun h' u tk hk => ⟨V.str _, H, I.kept (t' := tk) hk, ⟨_, rfl⟩, q⟩) h3
theorem cs_repr (hg : X.A.guards = some []) (hu : X.A.units + 66 < cLine) : CallS X (.builtin "repr") (biV .repr) := by
  refine ⟨_, call_repr hg hu, fun G H d x z own Q s r eg q => ?_⟩
  simp only [biV] at eg
  split at eg
  · rename_i h
    cases eg
    simp only [Bool.and_eq_true, decide_eq_true_eq, Bool.or_eq_true, Bool.not_eq_true'] at h
    refine ⟨x, d, rfl, r.prH s, h.1.1.1, h.1.1.2, h.1.2, fun z => ?_, q _ _ _ (vn_val s (.str _))⟩
    rcases h.2 with h | h
    · rw [z] at h
      cases h
    · exact h
  · cases eg
end
end VI
set_option maxRecDepth 100000
set_option maxHeartbeats 4000000
/-! VI: places, slices, classes, changing methods. -/
namespace VI
open PySem PySem.Spec PyProof.Rows L2
section
variable {X : Cx} {e a b : Expr}
theorem JF.of {ie : IE} {q q2 : Bool} {f : En → Option Res} (hr : JR X e q (rdOf ie f)) (hp : JE X e q f) : JF X e q q2 (fstOf q2 ie f) := fun H0 => by
  cases q2 with
  | true => exact PE.weak (hr H0) fun σ H Q ⟨G, env, r, R, e, qq⟩ => ⟨G, env, r, R, e, fun v H' G' S z => qq v H' G' S (fun z => nomatch z) z⟩
  | false => exact PE.weak (hp.p H0) fun σ H Q ⟨G, env, r, R, e, qq⟩ => ⟨G, env, r, R, e, fun v H' G' S z => qq v H' G' S (fun _ => z) (.inl z)⟩
theorem PE.or {t t' : TE} (h : PE X e t) (h' : PE X e t') : PE X e (fun σ H Q => t σ H Q ∨ t' σ H Q) := ⟨fun pins s σ H Q I q => q.elim (h.run pins s σ H Q I) (h'.run pins s σ H Q I)⟩
/-- behind a value's operation -/
theorem fin_new {K : PySem.W.Frag} {H0 G H G1 H1 G2 H2 : Hp} {q : Bool} {σ : L2.St} {env env1 : En} {d : PyData} {own : Bool} {u : V} (S : SteE K H0 q G H σ env G1 H1 env1) (n : VNew K G1 H1 G2 H2 d own u) : Post K H0 q σ env G H (d, own, env1) u H2 := by
  obtain ⟨S2, V2⟩ := S.rel.vnew (q := true) n
  refine ⟨G2, S.trans S2 (by simp), V2.1, fun z => ?_⟩
  obtain ⟨a, rfl, k1, k2, k3, k4, k5⟩ := V2.2 z
  refine ⟨a, rfl, k1, k2, k3, ?_, k5⟩
  rcases k4 with k4 | k4
  · exact .inl (S.un k4)
  · exact absurd k4 k5
/-! ### a call of a builtin with one value -/
theorem je_call1 {q : Bool} {fa : En → Option (PyData × En)} {g : PyData → Option (PyData × Bool)} {F : Value} (hc : CallS X F g) (he : ∀ r t, CallR X F r → PA X [a] t → PE X e (tCB r t)) (hs : starEach [a] X.env = (false, eval a X.env) :: starEach [] X.env) (ha : JR X a q fa) :
    JE X e q (fun env => match fa env with
      | some (x, env1) => (match g x with
        | some (d, own) => some (d, own, env1)
        | none => none)
      | none => none) := fun H0 => by
  obtain ⟨r, hr, hop⟩ := hc
  refine PE.weak (he r _ hr (pa_cons (ha H0) pa_nil hs)) fun σ H Q ⟨G, env, res, R, e, qq⟩ => ?_
  dsimp only at e
  split at e
  · rename_i d1 env1 ea
    split at e
    · rename_i d own eg
      cases e
      exact ⟨G, env, _, R, ea, fun v H1 G1 S r1 => hop G1 H1 d1 v d own Q S.rel.le r1 eg fun u G2 H2 n => qq u H2 (fin_new S n)⟩
    · cases e
  · cases e
/-! ### kinds -/
theorem pr_ty {K : PySem.W.Frag} {H : Hp} {d : PyData} {v : V} (r : PR K H d v) : TyX K H v (.type (tyN d)) := by
  cases r with
  | non => exact .base .non
  | bl b => exact .base (.bl b)
  | int i => exact .base (.int i)
  | str x => exact .base (.str x)
  | lst h _ _ =>
    rcases h with (h | ⟨o, h⟩) | ⟨o, its, n, h, hc, _⟩
    · exact .base (.lst h)
    · exact .base (.frz h)
    · exact .kList h hc
  | tup h _ _ =>
    rcases h with (h | ⟨o, h⟩) | ⟨o, its, n, h, hc, _⟩
    · exact .base (.tup h)
    · exact .fTuple h
    · exact .kTuple h hc
  | dct h _ _ => exact .base (.dK h)
def tyOk (t : String) : Bool := ["int", "bool", "str", "list", "tuple", "dict"].contains t
theorem kit_all : (["NoneType", "bool", "int", "str", "list", "tuple", "dict"].all fun n => ["int", "bool", "str", "list", "tuple", "dict"].all fun t => kitB n t == some (tyIs n t)) = true := by decide +kernel
theorem tyN_mem (d : PyData) : tyN d ∈ ["NoneType", "bool", "int", "str", "list", "tuple", "dict"] := by cases d <;> simp [tyN]
theorem isi_one {K : PySem.W.Frag} (d : PyData) {t : String} (h : tyOk t = true) : PySem.W.kitOne K (.type (tyN d)) (.type t) = some (isiV d t) := by
  have h1 := List.all_eq_true.mp (List.all_eq_true.mp kit_all _ (tyN_mem d)) t (by simpa [tyOk] using h)
  exact kit_ty (show kitB (tyN d) t = some (tyIs (tyN d) t) by simpa using h1)
theorem isi_any {K : PySem.W.Frag} (d : PyData) : ∀ {ts : List String}, ts.all tyOk = true → PySem.W.kitAny K (.type (tyN d)) (ts.map Value.type) = some (ts.any (isiV d))
  | [], _ => rfl
  | t :: r, h => by
    simp only [List.all_cons, Bool.and_eq_true] at h
    rw [List.map_cons, List.any_cons]
    refine kitAny_cons (isi_one d h.1) (fun z => ?_) (fun z => ?_)
    · rw [isi_any d h.2, z]
      rfl
    · rw [z]
      rfl
/-- isinstance(a, T) -/
theorem je_inst1 {q : Bool} {fa : En → Option (PyData × En)} {t : String} {et : Expr} (ht : tyOk t = true) (he : ∀ tt, PA X [a, et] tt → PE X e (tCB (rIsi X.K) tt)) (hs : starEach [a, et] X.env = (false, eval a X.env) :: starEach [et] X.env) (hs2 : starEach [et] X.env = (false, eval et X.env) :: starEach [] X.env)
    (hty : PE X et (tC (.ty t))) (ha : JR X a q fa) : JE X e q (fun env => match fa env with
      | some (x, env1) => some (.bool ([t].any (isiV x)), false, env1)
      | none => none) := fun H0 => by
  refine PE.weak (he _ (pa_cons (ha H0) (pa_cons hty pa_nil hs2) hs)) fun σ H Q ⟨G, env, res, R, e, qq⟩ => ?_
  dsimp only at e
  split at e
  · rename_i d1 env1 ea
    cases e
    refine ⟨G, env, _, R, ea, fun v H1 G1 S r1 => ?_⟩
    refine ⟨v, .ty t, _, _, isiV d1 t, rfl, .ty t, pr_ty (r1.prH S.rel.le), isi_one d1 ht, ?_⟩
    refine qq _ H1 ⟨G1, S, .pr ?_⟩
    simpa using PR.bl (K := X.K) (G := G1) (isiV d1 t)
  · cases e
/-- the classes of a written tuple -/
theorem pa_types : ∀ {ts : List String} {es : List Expr}, (∀ e ∈ es, ∀ x p, e ≠ .Starred x p) → (∀ (i : Nat) (t : String), ts[i]? = some t → ∃ e, es[i]? = some e ∧ PE X e (tC (.ty t))) → es.length = ts.length → PA X es (fun σ H Q => Q (ts.map V.ty) H)
  | [], [], _, _, _ => pa_nil
  | t :: ts, e :: es, hn, h, hl => by
    obtain ⟨e', h1, h2⟩ := h 0 t rfl
    cases h1
    have hs : starEach (e :: es) X.env = (false, eval e X.env) :: starEach es X.env := by
      have := hn e List.mem_cons_self
      cases e <;> first | rfl | exact absurd rfl (this _ _)
    refine ⟨fun pos pins s σ H Q I q => (pa_cons h2 (pa_types (ts := ts) (fun e he => hn e (List.mem_cons_of_mem _ he)) (fun i t hi => h (i + 1) t hi) (by simpa using hl)) hs).run pos pins s σ H Q I q⟩
  | [], _ :: _, _, _, hl => by simp at hl
  | _ :: _, [], _, _, hl => by simp at hl
theorem cls_types : ∀ ts : List String, Paired ClsV (ts.map V.ty) (ts.map Value.type)
  | [] => .nil
  | t :: r => .cons (.ty t) (cls_types r)
/-- isinstance(a, (T, ..)) -/
theorem je_instT {q : Bool} {fa : En → Option (PyData × En)} {ts : List String} {et : Expr} {es : List Expr} {k : Nat} {p : Pos} (ht : ts.all tyOk = true) (hz : ts.length ≤ sizeLine) (hE : et = .Tuple es k p) (he : ∀ tt, PA X [a, et] tt → PE X e (tCB (rIsiT X.K) tt)) (hs : starEach [a, et] X.env = (false, eval a X.env) :: starEach [et] X.env) (hs2 : starEach [et] X.env = (false, eval et X.env) :: starEach [] X.env)
    (hty : PA X es (fun σ H Q => Q (ts.map V.ty) H)) (ha : JR X a q fa) : JE X e q (fun env => match fa env with
      | some (x, env1) => some (.bool (ts.any (isiV x)), false, env1)
      | none => none) := fun H0 => by
  subst hE
  refine PE.weak (he _ (pa_cons (ha H0) (pa_cons (pe_tup hty) pa_nil hs2) hs)) fun σ H Q ⟨G, env, res, R, e, qq⟩ => ?_
  dsimp only at e
  split at e
  · rename_i d1 env1 ea
    cases e
    refine ⟨G, env, _, R, ea, fun v H1 G1 S r1 => ?_⟩
    refine ⟨by simpa using hz, fun p np => ?_⟩
    have S2 := Ste.newO S.rel (o := .tup (ts.map V.ty)) np
    have S3 : SteE X.K H0 q G H σ env G1 (upd H1 p (.tup (ts.map V.ty))) env1 := S.trans (q2 := true) ⟨S2, fun _ h => h, fun _ => same_upd np⟩ (by simp)
    refine ⟨v, p, _, _, _, ts.any (isiV d1), rfl, upd_same, cls_types ts, pr_ty ((r1.prH S.rel.le).mono (same_upd np)), isi_any d1 ht, ?_⟩
    exact qq _ _ ⟨G1, S3, .pr (.bl _)⟩
  · cases e
/-! ### places -/
theorem atI_pr {K : PySem.W.Frag} {G : Hp} {xs : List PyData} {vs : List V} {i : Int} {z : PyData} (r : PRs K G xs vs) (h : L2.atI xs i = some z) : ∃ v, L2.atI vs i = some v ∧ PR K G z v := by
  unfold L2.atI at h ⊢
  rw [← r.length]
  cases e : L2.ixN xs.length i with
  | none => rw [e] at h; cases h
  | some j =>
    rw [e] at h
    exact r.get h
theorem keyOf_kV {k : L2.Key} : keyOf (keyD k) = some k := by cases k <;> rfl
theorem keyOf_eq {d : PyData} {k : L2.Key} (h : keyOf d = some k) : d = keyD k := by
  cases d <;> simp [keyOf] at h <;> subst h <;> rfl
theorem getD_pr {K : PySem.W.Frag} {G : Hp} {k : L2.Key} : ∀ {ds : List (PyData × PyData)} {kvs : List (L2.Key × V)}, PRk K G ds kvs → (∀ z, getD ds k = some z → ∃ v, valV kvs k = some v ∧ PR K G z v) ∧ (getD ds k = none → valV kvs k = none)
  | _, _, .nil => ⟨fun z h => by simp [getD] at h, fun _ => rfl⟩
  | _, _, .cons (k := j) r t => by
    unfold getD
    rw [keyOf_kV]
    by_cases e : j = k
    · subst e
      rw [if_pos rfl, valV_pos rfl]
      exact ⟨fun z h => by cases h; exact ⟨_, rfl, r⟩, fun h => by cases h⟩
    · rw [if_neg (fun z => e (Option.some.inj z)), valV_neg e]
      exact getD_pr t
theorem RR.key {K : PySem.W.Frag} {G H : Hp} {d : PyData} {v : V} {k : L2.Key} (r : RR K G H d v) (h : keyOf d = some k) : v = kV k := by
  rw [keyOf_eq h] at r
  cases k with
  | inl i => exact r.int
  | inr x => exact r.str
theorem je_ix {q1 q2 : Bool} {fa fb : En → Option (PyData × En)} {pos : Pos} (hu : X.A.units + 1 < cLine) (hs : PlainIx b) (hn : NoSl b) (ha : JF X a q1 q2 fa) (hb : JP X b q2 fb) :
    JE X (.Subscript a b pos) (q1 && q2) (fun env => match fa env with
      | some (x, env1) => (match fb env1 with
        | some (y, env2) => (match ixV x y with
          | some z => some (z, false, env2)
          | none => none)
        | none => none)
      | none => none) := fun H0 => by
  refine PE.weak (PE.or (pe_ix (ix_list.or ix_tup) (ha H0) (hb H0) hs) (pe_dget hu (ha H0) (hb H0) hn)) fun σ H Q ⟨G, env, res, R, e, qq⟩ => ?_
  dsimp only at e
  split at e
  · rename_i d1 env1 ea
    split at e
    · rename_i d2 env2 eb
      split at e
      · rename_i z eg
        cases e
        unfold ixV at eg
        split at eg
        · rename_i xs i
          refine .inl ⟨G, env, _, R, ea, fun v H0' G0 S1 p1 r1 => ⟨G0, env1, _, S1.rel, eb, fun w H1 G1 S2 r2 => ?_⟩⟩
          obtain ⟨p, vs, rfl, hl, hz, hr⟩ := (keep1 S2 p1 r1).list S2.rel.le
          obtain ⟨u, hu, pu⟩ := atI_pr hr eg
          exact .inl ⟨p, vs, i, u, rfl, r2.eqInt, hl, hu, qq u H1 ⟨G1, S1.trans S2, .pr pu⟩⟩
        · rename_i xs i
          refine .inl ⟨G, env, _, R, ea, fun v H0' G0 S1 p1 r1 => ⟨G0, env1, _, S1.rel, eb, fun w H1 G1 S2 r2 => ?_⟩⟩
          obtain ⟨p, vs, rfl, hl, hz, hr⟩ := (keep1 S2 p1 r1).tuple S2.rel.le
          obtain ⟨u, hu, pu⟩ := atI_pr hr eg
          exact .inr ⟨p, vs, i, u, rfl, r2.eqInt, hl, hu, qq u H1 ⟨G1, S1.trans S2, .pr pu⟩⟩
        · rename_i kvs
          split at eg
          · rename_i x hk
            refine .inr ⟨G, env, _, R, ea, fun v H0' G0 S1 p1 r1 => ⟨G0, env1, _, S1.rel, eb, fun w H1 G1 S2 r2 => ?_⟩⟩
            obtain ⟨p, ws, rfl, hl, hz, hr⟩ := (keep1 S2 p1 r1).dict S2.rel.le
            obtain ⟨u, hu, pu⟩ := (getD_pr hr).1 z eg
            refine ⟨p, u, rfl, ?_, qq u H1 ⟨G1, S1.trans S2, .pr pu⟩⟩
            rw [RR.key (H := H1) (.inl r2) hk, ← hu]
            exact DGet.k hl
          · cases eg
        · cases eg
      · cases e
    · cases e
  · cases e
/-- a place of a name's list, read behind the place's number -/
theorem je_ix_late {q2 : Bool} {i : Nat} {fb : En → Option (PyData × En)} {pos : Pos} (hu : X.A.units + 1 < cLine) (hs : PlainIx b) (hn : NoSl b) (ha : PE X a (tVar i)) (hb : JP X b q2 fb) :
    JE X (.Subscript a b pos) q2 (fun env => match look env i with
      | some _ => (match fb env with
        | some (y, env1) => (match readV i env1 with
          | some (x, env2) => (match ixV x y with
            | some z => some (z, false, env2)
            | none => none)
          | none => none)
        | none => none)
      | none => none) := fun H0 => by
  refine PE.weak (PE.or (pe_ix (ix_list.or ix_tup) ha (hb H0) hs) (pe_dget hu ha (hb H0) hn)) fun σ H Q ⟨G, env, res, R, e, qq⟩ => ?_
  dsimp only at e
  split at e
  · rename_i sl hsl
    obtain ⟨d0, f0⟩ := sl
    obtain ⟨v, es, _, _⟩ := R.slot i d0 f0 hsl
    split at e
    · rename_i y env1 eb
      split at e
      · rename_i x env2 er
        split at e
        · rename_i z eg
          cases e
          have rd : ∀ {G1 H1 : Hp}, Rel X.K H0 G1 H1 σ env1 → env2 = env1 ∧ RR X.K G1 H1 x v := by
            intro G1 H1 R1
            unfold readV at er
            split at er
            · rename_i d f hl
              cases er
              obtain ⟨v', es', p, o⟩ := R1.slot i _ _ hl
              rw [es] at es'
              cases es'
              refine ⟨rfl, ?_⟩
              by_cases hf : f = .p
              · exact .inl (p hf)
              · obtain ⟨a, rfl, _, c⟩ := o hf
                exact .inr ⟨a, rfl, c⟩
            · cases er
          have e12 : env2 = env1 := by
            unfold readV at er
            split at er
            · cases er; rfl
            · cases er
          subst e12
          unfold ixV at eg
          split at eg
          · rename_i xs j
            refine .inl ⟨v, es, G, env, _, R, eb, fun w H1 G1 S2 r2 => ?_⟩
            obtain ⟨p, vs, rfl, hl, hz, hr⟩ := (rd S2.rel).2.list S2.rel.le
            obtain ⟨u, hu, pu⟩ := atI_pr hr eg
            exact .inl ⟨p, vs, j, u, rfl, r2.eqInt, hl, hu, qq u H1 ⟨G1, S2, .pr pu⟩⟩
          · rename_i xs j
            refine .inl ⟨v, es, G, env, _, R, eb, fun w H1 G1 S2 r2 => ?_⟩
            obtain ⟨p, vs, rfl, hl, hz, hr⟩ := (rd S2.rel).2.tuple S2.rel.le
            obtain ⟨u, hu, pu⟩ := atI_pr hr eg
            exact .inr ⟨p, vs, j, u, rfl, r2.eqInt, hl, hu, qq u H1 ⟨G1, S2, .pr pu⟩⟩
          · rename_i kvs
            split at eg
            · rename_i k hk
              refine .inr ⟨v, es, G, env, _, R, eb, fun w H1 G1 S2 r2 => ?_⟩
              obtain ⟨p, ws, rfl, hl, hz, hr⟩ := (rd S2.rel).2.dict S2.rel.le
              obtain ⟨u, hu, pu⟩ := (getD_pr hr).1 z eg
              refine ⟨p, u, rfl, ?_, qq u H1 ⟨G1, S2, .pr pu⟩⟩
              rw [RR.key (H := H1) (.inl r2) hk, ← hu]
              exact DGet.k hl
            · cases eg
          · cases eg
        · cases e
      · cases e
    · cases e
  · cases e
/-! ### slices -/
def JO (X : Cx) (q : Bool) (e : Option Expr) (f : En → Option (Option Int × En)) : Prop := ∀ H0, PO X e (fun σ H Q => ∃ G env r, Rel X.K H0 G H σ env ∧ f env = some r ∧ ∀ H' G', SteE X.K H0 q G H σ env G' H' r.2 → Q r.1 H')
theorem PO.weak {e : Option Expr} {t t' : TO} (h : PO X e t) (w : ∀ σ H Q, t' σ H Q → t σ H Q) : PO X e t' := ⟨fun pins s σ H Q I q => h.run pins s σ H Q I (w σ H Q q)⟩
theorem jo_none : JO X true none (fun env => some (none, env)) := fun H0 => PO.weak po_none fun σ H Q ⟨G, env, r, R, e, qq⟩ => by
  cases e
  exact qq H G (SteE.refl R)
theorem jo_some {f : En → Option Res} (h : JE X e q f) : JO X q (some e) (fun env => match f env with
    | some (.int i, _, env1) => some (some i, env1)
    | _ => none) := fun H0 => PO.weak (po_some (h H0)) fun σ H Q ⟨G, env, r, R, e, qq⟩ => by
  dsimp only at e
  split at e
  · rename_i i own env1 ea
    cases e
    refine ⟨G, env, _, R, ea, fun v H' ⟨G', S, V⟩ => ?_⟩
    exact ⟨i, V.rr.int, qq H' G' S⟩
  · cases e
theorem PRs.cut {K : PySem.W.Frag} {G : Hp} {ds : List PyData} {vs : List V} (r : PRs K G ds vs) (lo hi : Option Int) : PRs K G (cutD ds lo hi) (cutV vs lo hi) := by
  unfold cutD cutV
  rw [r.length]
  exact (r.drop _).take _
theorem sl_s {G H : Hp} {d : PyData} {x : V} {lo hi : Option Int} {z : PyData} {own : Bool} {Q : VK} (s : Same G H) (r : RR X.K G H d x) (eg : slV d lo hi = some (z, own)) (q : ∀ v G' H', VNew X.K G H G' H' z own v → Q v H') :
    (rSlL X.K x lo hi H Q ∨ rSlA X.K x lo hi H Q) ∨ rSlS x lo hi H Q := by
  cases d <;> simp only [slV] at eg <;> first | cases eg | skip
  · split at eg
    · rename_i h
      cases eg
      exact .inr ⟨_, r.str, h, q _ _ _ (vn_val s (.str _))⟩
    · cases eg
  · obtain ⟨a, vs, rfl, hl, hz, hr⟩ := r.list s
    exact .inl (.inl ⟨a, vs, rfl, hl, fun p n => q _ _ _ (vn_lst s n (hr.cut lo hi) (Nat.le_trans (cutV_length _ _ _) hz))⟩)
  · rename_i ds
    obtain ⟨a, vs, e, hl, hz, hr⟩ := r.tuple s
    subst e
    have pa : PR X.K G (.tuple ds) (.ref a) := by
      rcases r with r | ⟨_, _, c⟩
      · exact r
      · exact False.elim c
    refine .inl (.inr ⟨a, vs, rfl, hl, fun w => ?_, fun _ p n => q _ _ _ (vn_tup s n (hr.cut lo hi) (Nat.le_trans (cutV_length _ _ _) hz))⟩)
    have e : cutD ds lo hi = ds := by
      unfold cutD
      rw [hr.length, w.1, w.2]
      simp [← hr.length]
    rw [e] at q
    exact q _ _ _ (vn_val s pa)
theorem je_sl {fa : En → Option (PyData × En)} {lo hi : Option Expr} {fl fh : En → Option (Option Int × En)} {p2 pos : Pos} {q1 ql qh : Bool} (ha : JF X a q1 (ql && qh) fa) (hl : JO X ql lo fl) (hh : JO X qh hi fh) :
    JE X (.Subscript a (.Slice lo hi none p2) pos) (q1 && (ql && qh)) (fun env => match fa env with
      | some (x, env1) => (match fl env1 with
        | some (l, env2) => (match fh env2 with
          | some (h, env3) => (match slV x l h with
            | some (d, own) => some (d, own, env3)
            | none => none)
          | none => none)
        | none => none)
      | none => none) := fun H0 => by
  refine PE.weak (pe_slice ((sl_list.or sl_tupA).or sl_str) (ha H0) (hl H0) (hh H0)) fun σ H Q ⟨G, env, res, R, e, qq⟩ => ?_
  dsimp only at e
  split at e
  · rename_i d1 env1 ea
    split at e
    · rename_i l env2 el
      split at e
      · rename_i h env3 eh
        split at e
        · rename_i d own eg
          cases e
          refine ⟨G, env, _, R, ea, fun v H1 G1 S1 p1 r1 => ⟨G1, env1, _, S1.rel, el, fun H2 G2 S2 => ⟨G2, env2, _, S2.rel, eh, fun H3 G3 S3 => ?_⟩⟩⟩
          have S23 : SteE X.K H0 (ql && qh) G1 H1 σ env1 G3 H3 env3 := S2.trans S3
          exact sl_s S3.rel.le (keep1 S23 p1 r1) eg fun u G4 H4 n => qq u H4 (fin_new (S1.trans S23) n)
        · cases e
      · cases e
    · cases e
  · cases e
theorem je_rev {q : Bool} {fa : En → Option (PyData × En)} {k : Nat} {p2 p3 p4 pos : Pos} (ha : JR X a q fa) :
    JE X (.Subscript a (.Slice none none (some (.UnaryOp .USub (.Constant (.int 1) k p4) p3)) p2) pos) q (fun env => match fa env with
      | some (x, env1) => (match revV x with
        | some (d, own) => some (d, own, env1)
        | none => none)
      | none => none) := fun H0 => by
  refine PE.weak (pe_rev (ha H0)) fun σ H Q ⟨G, env, res, R, e, qq⟩ => ?_
  dsimp only at e
  split at e
  · rename_i d1 env1 ea
    split at e
    · rename_i d own eg
      cases e
      refine ⟨G, env, _, R, ea, fun v H1 G1 S r1 => ?_⟩
      cases d1 <;> simp only [revV] at eg <;> first | cases eg | skip
      · obtain ⟨a, vs, rfl, hl, hz, hr⟩ := r1.list S.rel.le
        exact ⟨a, vs, rfl, .inl ⟨hl, fun p n => qq _ _ (fin_new S (vn_lst S.rel.le n hr.reverse (by rw [List.length_reverse]; exact hz)))⟩⟩
      · obtain ⟨a, vs, rfl, hl, hz, hr⟩ := r1.tuple S.rel.le
        exact ⟨a, vs, rfl, .inr ⟨hl, fun p n => qq _ _ (fin_new S (vn_tup S.rel.le n hr.reverse (by rw [List.length_reverse]; exact hz)))⟩⟩
    · cases e
  · cases e
end
end VI
set_option maxRecDepth 100000
set_option maxHeartbeats 4000000
/-! VI: lists of expressions, displays, changing methods, calls of defs. -/
namespace VI
open PySem PySem.Spec PyProof.Rows L2
/-! ### what isn't starred -/
def NS (e : Expr) : Prop := ∀ x p, e ≠ .Starred x p
theorem star_cons {e : Expr} {es : List Expr} {env : Env} (h : NS e) : starEach (e :: es) env = (false, eval e env) :: starEach es env := by
  cases e <;> first | rfl | exact absurd rfl (h _ _)
theorem star_map {env : Env} : ∀ {es : List Expr}, (∀ e ∈ es, NS e) → starEach es env = es.map fun e => (false, eval e env)
  | [], _ => rfl
  | e :: es, h => by
    rw [star_cons (h e List.mem_cons_self), star_map fun x hx => h x (List.mem_cons_of_mem _ hx)]
    rfl
theorem star_plain {env : Env} {pos : Pos} {es : List Expr} (h : ∀ e ∈ es, NS e) : (backTo pos (starEach es env)).any (·.1) = false := by
  rw [star_map h]
  unfold backTo
  simp
theorem star_few {env : Env} {pos : Pos} {es : List Expr} (h : ∀ e ∈ es, NS e) (hl : es.length < 30) :
    ((backTo pos (starEach es env)).all (fun x => !x.1) && (backToKw pos (keywordEach [] env)).all (fun x => x.1.isSome)
      && decide (es.length + ([] : List Keyword).length + (if ([] : List Keyword).isEmpty then 0 else 1) < 30)) = true := by
  rw [star_map h]
  unfold backTo
  simp [keywordEach, backToKw, hl]
section
variable {X : Cx} {e a b o : Expr} {es : List Expr}
/-! ### several, each kept -/
def JPs (X : Cx) (es : List Expr) (q : Bool) (f : En → Option (List PyData × En)) : Prop :=
  ∀ H0, PA X es (fun σ H Q => ∃ G env r, Rel X.K H0 G H σ env ∧ f env = some r ∧ ∀ vs H' G', SteE X.K H0 q G H σ env G' H' r.2 → PRs X.K G' r.1 vs → Q vs H')
theorem PA.weak {t t' : TA} (h : PA X es t) (w : ∀ σ H Q, t' σ H Q → t σ H Q) : PA X es t' := ⟨fun pos pins s σ H Q I q => h.run pos pins s σ H Q I (w σ H Q q)⟩
theorem jps_nil (C : CallF) : JPs X [] true (evs C []) := fun H0 => PA.weak pa_nil fun σ H Q ⟨G, env, r, R, e, qq⟩ => by
  simp only [evs] at e
  cases e
  exact qq [] H G (SteE.refl R) .nil
theorem jps_cons {C : CallF} {ie : IE} {il : List IE} {q1 q2 : Bool} (ha : JE X a q1 (ev C ie)) (hr : JPs X es q2 (evs C il)) (hn : NS a) : JPs X (a :: es) (q1 && q2) (evs C (ie :: il)) := fun H0 =>
  PA.weak (pa_cons (ha.p H0) (hr H0) (star_cons hn)) fun σ H Q ⟨G, env, r, R, e, qq⟩ => by
    simp only [evs] at e
    split at e
    · rename_i d own env1 ea
      split at e
      · rename_i ds env2 es
        cases e
        refine ⟨G, env, (d, env1), R, by simp only [pers, ea], fun v H1 G1 S1 p1 => ⟨G1, env1, _, S1.rel, es, fun vs H2 G2 S2 p2 => ?_⟩⟩
        exact qq _ H2 G2 (S1.trans S2) (.cons (p1.mono S2.le) p2)
      · cases e
    · cases e
theorem je_tup {C : CallF} {il : List IE} {q : Bool} {k : Nat} {pos : Pos} (h : JPs X es q (evs C il)) : JE X (.Tuple es k pos) q (ev C (.tup il)) := fun H0 =>
  PE.weak (pe_tup (h H0)) fun σ H Q ⟨G, env, r, R, e, qq⟩ => by
    simp only [ev] at e
    split at e
    · rename_i ds env1 ea
      split at e
      · rename_i hz
        cases e
        refine ⟨G, env, _, R, ea, fun vs H1 G1 S1 p1 => ?_⟩
        rw [p1.length] at hz
        exact ⟨hz, fun p n => qq _ _ (fin_new S1 (vn_tup S1.rel.le n p1 hz))⟩
      · cases e
    · cases e
theorem je_lst {C : CallF} {il : List IE} {q : Bool} {pos : Pos} (h : JPs X es q (evs C il)) : JE X (.List es pos) q (ev C (.lst il)) := fun H0 =>
  PE.weak (pe_lst (h H0)) fun σ H Q ⟨G, env, r, R, e, qq⟩ => by
    simp only [ev] at e
    split at e
    · rename_i ds env1 ea
      split at e
      · rename_i hz
        cases e
        refine ⟨G, env, _, R, ea, fun vs H1 G1 S1 p1 => ?_⟩
        rw [p1.length] at hz
        exact ⟨hz, fun p n => qq _ _ (fin_new S1 (vn_lst S1.rel.le n p1 hz))⟩
      · cases e
    · cases e
/-! ### a name's list is changed -/
theorem Rel.write {K : PySem.W.Frag} {H0 G H : Hp} {σ : L2.St} {env : En} {i : Nat} {d d' : PyData} {f : Fl} {a : Addr} {u : HO} (r : Rel K H0 G H σ env) (hl : look env i = some (d, f)) (hf : f ≠ .p) (hs : σ[i]? = some (some (.ref a))) (hc : Cell K G (upd H a u) a d') :
    SteE K H0 false G H σ env G (upd H a u) (env.set i (some (d', f))) := by
  have hi := look_lt hl
  have m : MutA σ env a := ⟨i, d, f, hl, hf, hs⟩
  obtain ⟨nG, d0, c0⟩ := r.mutA m
  have lk : ∀ j x g, look (env.set i (some (d', f))) j = some (x, g) → (j = i ∧ x = d' ∧ g = f) ∨ (j ≠ i ∧ look env j = some (x, g)) := fun j x g h => by
    by_cases hij : i = j
    · subst hij
      rw [look_set_same hi] at h
      cases h
      exact .inl ⟨rfl, rfl, rfl⟩
    · rw [look_set_ne hij] at h
      exact .inr ⟨fun z => hij z.symm, h⟩
  have un : ∀ b, H b ≠ none → (upd H a u) b ≠ none := fun b h => by
    by_cases e : b = a
    · rw [e, upd_same]
      exact fun z => nomatch z
    · rw [upd_ne e]
      exact h
  have mm : ∀ b, MutA σ (env.set i (some (d', f))) b → MutA σ env b := fun b ⟨j, x, g, h1, h2, h3⟩ => by
    rcases lk j x g h1 with ⟨rfl, rfl, rfl⟩ | ⟨_, h⟩
    · exact ⟨j, d, g, hl, hf, h3⟩
    · exact ⟨j, x, g, h, h2, h3⟩
  refine ⟨⟨⟨fun b o h => ?_, fun b h => un b (r.dom b h), by simpa using r.len, fun j x g h => ?_, fun j x b h1 h2 => ?_, fun j k x y g1 g2 b h1 n1 h2 n2 e1 e2 => ?_⟩, Same.refl _, fun _ h => .inl h, fun b o h n => ?_, fun b h => .inl (mm b h), un⟩, mm, fun z => nomatch z⟩
  · rw [upd_ne (ne_of_none h nG)]
    exact r.le b o h
  · rcases lk j x g h with ⟨rfl, rfl, rfl⟩ | ⟨hj, h⟩
    · exact ⟨_, hs, fun z => absurd z hf, fun _ => ⟨a, rfl, nG, hc⟩⟩
    · obtain ⟨v, e, p, q⟩ := r.slot j x g h
      refine ⟨v, e, p, fun z => ?_⟩
      obtain ⟨b, rfl, nb, cb⟩ := q z
      have hba : b ≠ a := fun z' => hj (r.dist j i x d g f a h z hl hf (z' ▸ e) hs)
      exact ⟨b, rfl, nb, cb.keep (Same.refl _) (upd_ne hba)⟩
  · rcases lk j x _ h1 with ⟨rfl, rfl, rfl⟩ | ⟨_, h⟩
    · exact r.own j d b hl h2
    · exact r.own j x b h h2
  · have g1' : ∃ x', look env j = some (x', g1) := by
      rcases lk j x g1 h1 with ⟨rfl, rfl, rfl⟩ | ⟨_, h⟩
      · exact ⟨d, hl⟩
      · exact ⟨x, h⟩
    have g2' : ∃ x', look env k = some (x', g2) := by
      rcases lk k y g2 h2 with ⟨rfl, rfl, rfl⟩ | ⟨_, h⟩
      · exact ⟨d, hl⟩
      · exact ⟨y, h⟩
    obtain ⟨x1, l1⟩ := g1'
    obtain ⟨x2, l2⟩ := g2'
    exact r.dist j k x1 x2 g1 g2 b l1 n1 l2 n2 e1 e2
  · rw [upd_ne (fun e => n (by rw [e]; exact m))]
    exact h
/-- a method that changes a list (a dict), by values -/
def MuS (X : Cx) (id : String) (m : PyData → List PyData → Option (PyData × PyData)) : Prop :=
  ∃ r, MtR X id r ∧ ∀ (G H : Hp) (a : Addr) (d d' z : PyData) (ys : List PyData) (ws : List V) (Q : VK), Same G H → G a = none → Cell X.K G H a d → PRs X.K G ys ws → m d ys = some (d', z) →
    (∀ u v, Cell X.K G (upd H a u) a d' → PR X.K G z v → Q v (upd H a u)) → r (.ref a) ws H Q
theorem PRs.one {K : PySem.W.Frag} {G : Hp} {d : PyData} {ws : List V} (h : PRs K G [d] ws) : ∃ w, ws = [w] ∧ PR K G d w := by
  cases h with
  | cons a t => cases t; exact ⟨_, rfl, a⟩
theorem PRs.zero {K : PySem.W.Frag} {G : Hp} {ws : List V} (h : PRs K G [] ws) : ws = [] := by cases h; rfl
theorem mu_append : MuS X "list.append" (muV .append) := by
  refine ⟨_, mt_append, fun G H a d d' z ys ws Q s n c r eg q => ?_⟩
  simp only [muV] at eg
  unfold appendV at eg
  split at eg <;> first | (cases eg; done) | skip
  rename_i xs y
  obtain ⟨w, rfl, rw'⟩ := r.one
  obtain ⟨vs, hv, hz, hr⟩ := c
  split at eg
  · rename_i hlt
    cases eg
    rw [hr.length] at hlt
    exact ⟨a, vs, w, rfl, rfl, hv, hlt, q _ _ ⟨vs ++ [w], upd_same, by rw [List.length_append]; exact hlt, hr.append (.cons rw' .nil)⟩ .non⟩
  · cases eg
/-- extend by a list that is read anyhow -/
theorem list_extendW (l : Addr) (items : Array Value) (n : Nat) (b : Addr) (items2 : Array Value) (n2 : Nat) (dd : Option Addr) (sl : Array (Option Value)) (hc0 : ¬(!items.isEmpty && Builtin.List.listTooLong (items.size + items2.size)) = true) (hc1 : items.size ≤ sizeLine) (hs2 : items.size + items2.size ≤ sizeLine + 1) :
    Meets (Builtin.«list.extend» ⟨[.ref l, .ref b], []⟩) (fun _ R s => s.heap.get? l = some { cls := .type "list", dict := none, data := .seq items n, slots := #[] } ∧ s.heap.get? b = some { cls := .type "list", dict := dd, data := .seq items2 n2, slots := sl } ∧ R (.ok (.ret Value.none)) { s with heap := s.heap.update l (Obj.mapSeq fun x => x ++ items2), toks := s.toks }) :=
  .of_wp fun prog w A R s h => by
    obtain ⟨hp, g, d, tk, os⟩ := s; obtain ⟨hl, hb, h⟩ := h; have f1 := AutoSeq1.idx_int; have f2 := AutoSeq1.sub_tuple_tuple; have f3 := AutoSeq1.sub_list_list; have f4 := AutoSeq1.sub_tuple_list; have f5 := AutoSeq1.sub_list_tuple;
    have hz' : (items ++ items2).size ≤ sizeLine + 1 := by rw [Array.size_append]; exact hs2
    wp_walk using (wpAny_updateSeq hl rfl (hz := hc1) (_hz' := hz')), wpAny_loadPart' hl, wpAny_loadPart' hb; exact ⟨_, rfl, h⟩
def rExtL (K : PySem.W.Frag) : V → List V → Hp → VK → Prop := fun x vs H Q => ∃ l b xs zs, x = .ref l ∧ vs = [.ref b] ∧ H l = some (.lst xs) ∧ SqL K H b zs ∧ xs.length + zs.length ≤ sizeLine ∧ Q .non (upd H l (.lst (xs ++ zs)))
theorem mt_extL : MtR X "list.extend" (rExtL X.K) := by
  intro pins s σ H x vs v us Q I rx rv h
  obtain ⟨l, b, xs, zs, rfl, rfl, hH, hB, hz, q⟩ := h
  cases rx
  obtain ⟨u, rfl, ru⟩ := rv.one
  cases ru
  obtain ⟨z, its, n, r, hl, e⟩ := I.lstM hH
  obtain ⟨its2, r2, ⟨⟨cls2, dd2, data2, sl2⟩, n2, e2, hc2, hd02, hd2⟩, z2⟩ := I.list hB
  simp only at hc2 hd2
  subst hc2 hd2
  have hl2 := r2.length
  have hsz : its.toArray.size + its2.toArray.size ≤ sizeLine := by rw [List.size_toArray, List.size_toArray]; omega
  have hlong : ¬ (!its.toArray.isEmpty && Builtin.List.listTooLong (its.toArray.size + its2.toArray.size)) = true := by
    rw [notLongL hsz, Bool.and_false]
    exact Bool.false_ne_true
  refine call_meets F.slot_list_extend ⟨_, e, rfl⟩ F.entry_list_extend (F.args_list_extend_2 _ _)
    (list_extendW l its.toArray n b its2.toArray n2 dd2 sl2 hlong (by rw [List.size_toArray]; omega) (by omega)) ⟨e, e2, ?_⟩
  exact ⟨.non, _, I.lset (its' := its ++ its2) hH e (by simp) (r.append r2) (by rw [List.length_append]; omega), rfl, q⟩
theorem mu_extend : MuS X "list.extend" (muV .extend) := by
  refine ⟨_, mt_extL, fun G H a d d' z ys ws Q s n c r eg q => ?_⟩
  simp only [muV] at eg
  unfold extendV at eg
  split at eg <;> first | (cases eg; done) | skip
  rename_i xs zs
  obtain ⟨w, rfl, rw'⟩ := r.one
  obtain ⟨vs, hv, hz, hr⟩ := c
  obtain ⟨b, us, rfl, hb, hz2, hr2⟩ := RR.list s (.inl rw' : RR X.K G H (.list zs) w)
  split at eg
  · rename_i hlt
    cases eg
    rw [hr.length, hr2.length] at hlt
    exact ⟨a, b, vs, us, rfl, rfl, hv, hb, hlt, q _ _ ⟨vs ++ us, upd_same, by rw [List.length_append]; exact hlt, hr.append hr2⟩ .non⟩
  · cases eg
theorem mu_reverse : MuS X "list.reverse" (muV .reverse) := by
  refine ⟨_, mt_reverse, fun G H a d d' z ys ws Q s n c r eg q => ?_⟩
  simp only [muV] at eg
  unfold reverseV at eg
  split at eg <;> first | (cases eg; done) | skip
  rename_i xs
  cases eg
  obtain rfl := r.zero
  obtain ⟨vs, hv, hz, hr⟩ := c
  exact ⟨a, vs, rfl, rfl, hv, q _ _ ⟨vs.reverse, upd_same, by rw [List.length_reverse]; exact hz, hr.reverse⟩ .non⟩
theorem mu_clear : MuS X "list.clear" (muV .clear) := by
  refine ⟨_, mt_clear, fun G H a d d' z ys ws Q s n c r eg q => ?_⟩
  simp only [muV] at eg
  unfold clearV at eg
  split at eg <;> first | (cases eg; done) | skip
  rename_i xs
  cases eg
  obtain rfl := r.zero
  obtain ⟨vs, hv, hz, hr⟩ := c
  exact ⟨a, vs, rfl, rfl, hv, q _ _ ⟨[], upd_same, Nat.zero_le _, .nil⟩ .non⟩
theorem MtR.or2 {id : String} {r r' : V → List V → Hp → VK → Prop} (h : MtR X id r) (h' : MtR X id r') : MtR X id (fun x xs H Q => r x xs H Q ∨ r' x xs H Q) := fun pins s σ H x xs v us Q I rx rv q => q.elim (h pins s σ H x xs v us Q I rx rv) (h' pins s σ H x xs v us Q I rx rv)
theorem mu_pop : MuS X "list.pop" (muV .pop) := by
  refine ⟨_, MtR.or2 mt_pop mt_popAt, fun G H a d d' z ys ws Q s n c r eg q => ?_⟩
  simp only [muV] at eg
  unfold popV at eg
  split at eg <;> first | cases eg | skip
  · rename_i xs
    obtain rfl := r.zero
    obtain ⟨vs, hv, hz, hr⟩ := c
    split at eg
    · rename_i y hy
      cases eg
      obtain ⟨w, h1, h2⟩ := hr.get hy
      rw [hr.length] at h1
      exact .inl ⟨a, vs, w, rfl, rfl, hv, h1, q _ _ ⟨vs.dropLast, upd_same, by rw [List.length_dropLast]; omega, hr.dropLast⟩ h2⟩
    · cases eg
  · rename_i xs i
    obtain ⟨w, rfl, rw'⟩ := r.one
    obtain ⟨vs, hv, hz, hr⟩ := c
    split at eg
    · rename_i hb
      split at eg
      · rename_i j hj
        split at eg
        · rename_i y hy
          cases eg
          obtain ⟨w', h1, h2⟩ := hr.get hy
          rw [hr.length] at hj
          obtain ⟨k1, _⟩ := ixN_seq hj
          exact .inr ⟨a, vs, i, j, w', rfl, by rw [rw'.eqInt], hv, by omega, by omega, k1, h1, q _ _ ⟨vs.eraseIdx j, upd_same, Nat.le_trans (len_erase vs j) hz, hr.eraseIdx j⟩ h2⟩
        · cases eg
      · cases eg
    · cases eg
end
end VI
set_option maxRecDepth 100000
set_option maxHeartbeats 4000000
/-! VI: a changing method at a name; calls of defs. -/
namespace VI
open PySem PySem.Spec PyProof.Rows L2
section
variable {X : Cx} {e a b o : Expr} {es : List Expr} {x : Str} {i : Nat}
theorem je_mu {C : CallF} {il : List IE} {q : Bool} {m : MU} {id : String} {to : TE} (hop : MuS X id (muV m)) (hto : to = tVar i)
    (he : ∀ r (H0 : Hp), MtR X id r → PE X e (tBM X.K "list" r to (fun σ H Q => ∃ G env r, Rel X.K H0 G H σ env ∧ evs C il env = some r ∧ ∀ vs H' G', SteE X.K H0 q G H σ env G' H' r.2 → PRs X.K G' r.1 vs → Q vs H'))) : JE X e false (ev C (.mu m i il)) := fun H0 => by
  subst hto
  obtain ⟨r, hr, hop⟩ := hop
  refine PE.weak (he r H0 hr) fun σ H Q ⟨G, env, res, R, e, qq⟩ => ?_
  simp only [ev] at e
  split at e
  · rename_i ds0 f0 hl0
    split at e
    · rename_i ys env1 ea
      split at e
      · cases e
      · rename_i d f hf hlk
        split at e
        · rename_i d' z eg
          cases e
          obtain ⟨v0, es0, p0, o0⟩ := R.slot i _ f0 hl0
          have r0 : RR X.K G H (.list ds0) v0 := by
            by_cases hf0 : f0 = .p
            · exact .inl (p0 hf0)
            · obtain ⟨a, rfl, _, c⟩ := o0 hf0
              exact .inr ⟨a, rfl, c⟩
          obtain ⟨a0, vs0, ev0, hl, _, _⟩ := r0.list R.le
          refine ⟨v0, es0, by rw [ev0]; exact .inl ⟨rfl, _, hl⟩, G, env, _, R, ea, fun ws H1 G1 S1 p1 => ?_⟩
          obtain ⟨v1, es1, _, o1⟩ := S1.rel.slot i d f hlk
          obtain ⟨a, e1, n1, c1⟩ := o1 hf
          rw [es0] at es1
          cases es1
          subst e1
          refine hop G1 H1 a d d' z ys ws Q S1.rel.le n1 c1 p1 eg fun u w c2 pz => ?_
          exact qq w _ ⟨G1, S1.trans (S1.rel.write hlk hf es0 c2) (by simp), .pr pz⟩
        · cases e
      · cases e
    · cases e
  · cases e
/-! ### what a def promises, where no repr runs around it -/
structure FnG (P : Program) (w : World) (K : PySem.W.Frag) (mg : Str → Option Value) (base : Heap) (k : Nat) (f : Addr) (fd : FuncData) (ps : List Str) (sp : Sp) : Prop where
  len : ∀ vs H Q E, sp vs H Q E → vs.length = ps.length
  run : ∀ (A : Around) (outer : List Env) (s : Shared) (H : Hp) (args : Args) (us : List Value) (vs : List V) (Q : VK) (E : XK), Room k A → A.guards = some [] → Env0 P w K mg base A outer s H → BindsTo s fd args (ps.zip us) → Vals vs us → sp vs H Q E →
    codeAny (model P w) A (.call (.ref f) args) (CR CX0 outer P w H s Q E) s
theorem FnG.mono {P : Program} {w : World} {K : PySem.W.Frag} {mg : Str → Option Value} {base : Heap} {j k : Nat} {f : Addr} {fd : FuncData} {ps : List Str} {sp : Sp} (F : FnG P w K mg base j f fd ps sp) (h : j ≤ k) : FnG P w K mg base k f fd ps sp :=
  ⟨F.len, fun A outer s H args us vs Q E hr => F.run A outer s H args us vs Q E (hr.mono h)⟩
theorem pe_fnG {k : Nat} {f : Addr} {fd : FuncData} {ps : List Str} {sp : Sp} {p pos : Pos} {t : TA} (F : FnG X.prog X.w X.K X.mg X.base k f fd ps sp) (hr : Room k X.A) (hgd : X.A.guards = some []) (hg : Gl X x) (hm : X.mg x = some (.ref f)) (hk : PySem.W.keepIn X.K (.ref f) = true) (hb : Binds X.K fd ps [])
    (ha : PA X (a :: es) t) (hn : ∀ e ∈ a :: es, NS e) (hdb : (x == ("__debug__" : Str)) = false) : PE X (.Call (.Name x p) (a :: es) [] pos) (fun σ H Q => t σ H fun vs H1 => sp vs H1 Q E0) := by
  refine ⟨fun pins s σ H Q I h => wpAny_Call_Name_kw (ld_glob I hg hm ?_ hdb)⟩
  refine PySem.W.callWith_K (h₀ := X.base) I.ok.mod.kin hk (thn (ha.run pos pins s σ H _ I h) fun us s1 ⟨vs, H1, I1, r, q⟩ => ⟨I1.kIn, ?_⟩) (star_cons (hn a List.mem_cons_self)) (star_plain fun e he => hn e (List.mem_cons_of_mem _ he))
  have hlen : (us ++ ([] : List Value)).length = ps.length := by
    rw [List.append_nil, ← r.length]
    exact F.len _ _ _ _ q
  have b := hb s1 us I1.kIn hlen
  rw [List.append_nil] at b
  refine wpAny_call (codeAny_mono (F.run X.A X.stack s1 H1 ⟨us, []⟩ us vs Q E0 hr hgd I1.env0 b r q) fun res s2 hq => ?_)
  match res, hq with
  | .ok (.ret u), hq => exact I1.after hq
  | .error _, hq => exact False.elim hq
  | .ok .next, hq => exact False.elim hq
  | .ok .brk, hq => exact False.elim hq
  | .ok .cont, hq => exact False.elim hq
/-! ### calls -/
def flag : List (PyData × Bool) → En
  | [] => []
  | (d, m) :: r => some (d, if m then .b else .p) :: flag r
/-- the promise of a def: what its function tells -/
def spVI (K : PySem.W.Frag) (n : Nat) (F : List (PyData × Bool) → Option (PyData × Bool × List (PyData × Bool))) : Sp := fun vs H Q _ =>
  ∃ G args d own fs, vs.length = n ∧ args.length = n ∧ fs.length = n ∧ Rel K H G H (vs.map some) (flag args) ∧ F args = some (d, own, fs) ∧ ∀ v H', Post K H false (vs.map some) (flag args) G H (d, own, flag fs) v H' → Q v H'
end
end VI
set_option maxRecDepth 100000
set_option maxHeartbeats 4000000
/-! VI: a call of a def. -/
namespace VI
open PySem PySem.Spec PyProof.Rows L2
/-! ### lists of arguments -/
theorem lent_same {env env' : En} : ∀ {as : List Arg}, (∀ k, Arg.at_ k ∈ as → look env' k = look env k) → lent env' as = lent env as
  | [], _ => rfl
  | .val d o :: r, h => by
    unfold lent
    exact lent_same fun k hk => h k (List.mem_cons_of_mem _ hk)
  | .at_ i :: r, h => by
    unfold lent
    rw [h i List.mem_cons_self, lent_same (as := r) fun k hk => h k (List.mem_cons_of_mem _ hk)]
theorem lent_mem {env : En} {i : Nat} {d : PyData} {f : Fl} (hl : look env i = some (d, f)) (hf : f ≠ .p) : ∀ {as : List Arg}, Arg.at_ i ∈ as → i ∈ lent env as
  | .val d o :: r, h => by
    unfold lent
    rcases List.mem_cons.mp h with z | z
    · cases z
    · exact lent_mem hl hf z
  | .at_ k :: r, h => by
    unfold lent
    rcases List.mem_cons.mp h with z | z
    · cases z
      rw [hl]
      cases f <;> first | exact absurd rfl hf | exact List.mem_cons_self
    · have ih := lent_mem hl hf z
      split
      · exact ih
      · exact List.mem_cons_of_mem _ ih
theorem lent_tail {env : En} : ∀ {a : Arg} {r : List Arg}, (lent env (a :: r)).Nodup → (lent env r).Nodup
  | .val _ _, _, n => n
  | .at_ i, r, n => by
    unfold lent at n
    split at n
    · exact n
    · exact (List.nodup_cons.mp n).2
theorem lent_ix {env : En} {i : Nat} {d : PyData} {f : Fl} (hl : look env i = some (d, f)) (hf : f ≠ .p) : ∀ {as : List Arg} {j k : Nat}, (lent env as).Nodup → as[j]? = some (.at_ i) → as[k]? = some (.at_ i) → j = k
  | [], j, k, _, h, _ => by simp at h
  | a :: r, 0, 0, _, _, _ => rfl
  | a :: r, 0, k + 1, n, h1, h2 => by
    simp at h1 h2
    subst h1
    have m := lent_mem hl hf (List.mem_of_getElem? h2)
    unfold lent at n
    rw [hl] at n
    cases f <;> first | exact absurd rfl hf | exact absurd m (List.nodup_cons.mp n).1
  | a :: r, j + 1, 0, n, h1, h2 => by
    simp at h1 h2
    subst h2
    have m := lent_mem hl hf (List.mem_of_getElem? h1)
    unfold lent at n
    rw [hl] at n
    cases f <;> first | exact absurd rfl hf | exact absurd m (List.nodup_cons.mp n).1
  | a :: r, j + 1, k + 1, n, h1, h2 => congrArg (· + 1) (lent_ix hl hf (as := r) (j := j) (k := k) (lent_tail n) (by simpa using h1) (by simpa using h2))
theorem back_spec : ∀ {as : List Arg} {fs : List (PyData × Bool)} {env : En}, as.length = fs.length → (lent env as).Nodup →
    (back env as fs).length = env.length ∧ ∀ i d f, look (back env as fs) i = some (d, f) →
      (∃ (j : Nat) (m : Bool) (d0 : PyData) (f0 : Fl), as[j]? = some (Arg.at_ i) ∧ fs[j]? = some (d, m) ∧ look env i = some (d0, f0) ∧ f0 ≠ .p ∧ f = if m = true then f0 else .p) ∨ (look env i = some (d, f) ∧ (f ≠ .p → ∀ j : Nat, as[j]? ≠ some (Arg.at_ i)))
  | [], [], env, _, _ => ⟨by simp [back], fun i d f h => .inr ⟨by simpa [back] using h, fun _ j => by simp⟩⟩
  | .val d0 o :: r, x :: fs, env, hl, hn => by
    obtain ⟨h1, h2⟩ := back_spec (as := r) (fs := fs) (env := env) (by simpa using hl) (by simpa [lent] using hn)
    refine ⟨by simpa [back] using h1, fun i d f h => ?_⟩
    rcases h2 i d f (by simpa [back] using h) with ⟨j, m, d1, f1, k1, k2, k3⟩ | ⟨k1, k2⟩
    · exact .inl ⟨j + 1, m, d1, f1, by simpa using k1, by simpa using k2, k3⟩
    · refine .inr ⟨k1, fun z j => ?_⟩
      cases j with
      | zero => simp
      | succ j => simpa using k2 z j
  | .at_ k :: r, (x, m) :: fs, env, hl, hn => by
    have hl' : r.length = fs.length := by simpa using hl
    cases hk : look env k with
    | none =>
      have hn' : (lent env r).Nodup := by
        unfold lent at hn
        rw [hk] at hn
        exact (List.nodup_cons.mp hn).2
      obtain ⟨h1, h2⟩ := back_spec (as := r) (fs := fs) (env := env) hl' hn'
      have e : back env (.at_ k :: r) ((x, m) :: fs) = back env r fs := by
        rw [back]
        rw [hk]
      rw [e]
      refine ⟨h1, fun i d f h => ?_⟩
      rcases h2 i d f h with ⟨j, m1, d1, f1, k1, k2, k3⟩ | ⟨k1, k2⟩
      · exact .inl ⟨j + 1, m1, d1, f1, by simpa using k1, by simpa using k2, k3⟩
      · refine .inr ⟨k1, fun z j => ?_⟩
        cases j with
        | zero =>
          intro z'
          simp at z'
          subst z'
          rw [hk] at k1
          cases k1
        | succ j => simpa using k2 z j
    | some y =>
      obtain ⟨dk, fk⟩ := y
      by_cases hp : fk = .p
      · subst hp
        have hn' : (lent env r).Nodup := by
          unfold lent at hn
          rw [hk] at hn
          exact hn
        obtain ⟨h1, h2⟩ := back_spec (as := r) (fs := fs) (env := env) hl' hn'
        have e : back env (.at_ k :: r) ((x, m) :: fs) = back env r fs := by
          rw [back]
          rw [hk]
        rw [e]
        refine ⟨h1, fun i d f h => ?_⟩
        rcases h2 i d f h with ⟨j, m1, d1, f1, k1, k2, k3⟩ | ⟨k1, k2⟩
        · exact .inl ⟨j + 1, m1, d1, f1, by simpa using k1, by simpa using k2, k3⟩
        · refine .inr ⟨k1, fun z j => ?_⟩
          cases j with
          | zero =>
            intro z'
            simp at z'
            subst z'
            rw [hk] at k1
            cases k1
            exact z rfl
          | succ j => simpa using k2 z j
      · have hlk : lent env (.at_ k :: r) = k :: lent env r := by
          rw [lent]
          rw [hk]
          cases fk <;> first | exact absurd rfl hp | rfl
        rw [hlk] at hn
        obtain ⟨hkn, hn'⟩ := List.nodup_cons.mp hn
        have hr : ∀ j, Arg.at_ j ∈ r → j ≠ k := fun j hj z => hkn (lent_mem hk hp (z ▸ hj))
        have hlt := look_lt hk
        have same : ∀ j, Arg.at_ j ∈ r → look (env.set k (some (x, if m = true then fk else .p))) j = look env j := fun j hj => look_set_ne (hr j hj).symm
        obtain ⟨h1, h2⟩ := back_spec (as := r) (fs := fs) (env := env.set k (some (x, if m = true then fk else .p))) hl' (by rw [lent_same same]; exact hn')
        have e : back env (.at_ k :: r) ((x, m) :: fs) = back (env.set k (some (x, if m = true then fk else .p))) r fs := by
          rw [back]
          rw [hk]
          cases fk <;> first | exact absurd rfl hp | rfl
        rw [e]
        refine ⟨by simpa using h1, fun i d f h => ?_⟩
        rcases h2 i d f h with ⟨j, m1, d1, f1, k1, k2, k3, k4⟩ | ⟨k1, k2⟩
        · have hj := List.mem_of_getElem? k1
          rw [same i hj] at k3
          exact .inl ⟨j + 1, m1, d1, f1, by simpa using k1, by simpa using k2, k3, k4⟩
        · by_cases hik : i = k
          · subst hik
            rw [look_set_same hlt] at k1
            cases k1
            exact .inl ⟨0, m, dk, fk, rfl, rfl, hk, hp, rfl⟩
          · rw [look_set_ne (fun z => hik z.symm)] at k1
            refine .inr ⟨k1, fun z j => ?_⟩
            cases j with
            | zero =>
              intro z'
              simp at z'
              exact hik z'.symm
            | succ j => simpa using k2 z j
theorem argsNow_spec {env : En} : ∀ {as : List Arg} {l : List (PyData × Bool)}, argsNow env as = some l → l.length = as.length ∧ ∀ (j : Nat) a, as[j]? = some a → ∃ x, l[j]? = some x ∧ argNow env a = some x
  | [], l, h => by
    simp [argsNow] at h
    subst h
    exact ⟨rfl, fun j a z => by simp at z⟩
  | b :: r, l, h => by
    unfold argsNow at h
    split at h
    · rename_i x xs h1 h2
      cases h
      obtain ⟨k1, k2⟩ := argsNow_spec h2
      refine ⟨by simp [k1], fun j a z => ?_⟩
      cases j with
      | zero =>
        simp at z
        subst z
        exact ⟨x, rfl, h1⟩
      | succ j =>
        obtain ⟨y, k3, k4⟩ := k2 j a (by simpa using z)
        exact ⟨y, by simpa using k3, k4⟩
    · cases h
theorem flag_look : ∀ {l : List (PyData × Bool)} {j : Nat}, look (flag l) j = (l[j]?).map fun x => (x.1, if x.2 = true then Fl.b else Fl.p)
  | [], j => by simp [flag, look]
  | (d, m) :: r, 0 => by simp [flag, look]
  | (d, m) :: r, j + 1 => by
    have ih := flag_look (l := r) (j := j)
    unfold look at ih ⊢
    simpa [flag] using ih
theorem flag_length : ∀ {l : List (PyData × Bool)}, (flag l).length = l.length
  | [] => rfl
  | (d, m) :: r => by simp [flag, flag_length]
/-! ### the arguments' values -/
structure ArgsR (K : PySem.W.Frag) (σ : L2.St) (env : En) (H G' H' : Hp) (env' : En) (as : List Arg) (vs : List V) : Prop where
  len : vs.length = as.length
  at_ : ∀ (j i : Nat) v, as[j]? = some (.at_ i) → vs[j]? = some v → σ[i]? = some (some v)
  val : ∀ (j : Nat) d v, as[j]? = some (.val d false) → vs[j]? = some v → PR K G' d v
  own : ∀ (j : Nat) d v, as[j]? = some (.val d true) → vs[j]? = some v → ∃ a, v = .ref a ∧ G' a = none ∧ Cell K G' H' a d ∧ (H a = none ∨ MutA σ env a) ∧ ¬ MutA σ env' a
  dis : ∀ (j k : Nat) d e a, as[j]? = some (.val d true) → as[k]? = some (.val e true) → vs[j]? = some (.ref a) → vs[k]? = some (.ref a) → j = k
section
variable {X : Cx} {a e : Expr} {es : List Expr} {x : Str}
def JArgs (X : Cx) (es : List Expr) (f : En → Option (List Arg × En)) : Prop :=
  ∀ H0, PA X es (fun σ H Q => ∃ G env r, Rel X.K H0 G H σ env ∧ f env = some r ∧ ∀ vs H' G', SteE X.K H0 false G H σ env G' H' r.2 → ArgsR X.K σ env H G' H' r.2 r.1 vs → Q vs H')
theorem jargs_nil (C : CallF) : JArgs X [] (evArgs C []) := fun H0 => PA.weak pa_nil fun σ H Q ⟨G, env, r, R, e, qq⟩ => by
  simp only [evArgs] at e
  cases e
  refine qq [] H G (SteE.refl R) ⟨rfl, ?_, ?_, ?_, ?_⟩ <;> (intros; simp_all)
theorem jargs_at {C : CallF} {i : Nat} {il : List IE} {p : Pos} (hN : X.N[i]? = some x) (hv : Vis X.env.scope x) (hd : (x == ("__debug__" : Str)) = false) (hc : (x == ("__classdict__" : Str)) = false) (hr : JArgs X es (evArgs C il)) : JArgs X (.Name x p :: es) (evArgs C (.var i :: il)) := fun H0 =>
  PA.weak (pa_cons (pe_var hN hv hd hc) (hr H0) (star_cons (fun _ _ z => nomatch z))) fun σ H Q ⟨G, env, r, R, e, qq⟩ => by
    simp only [evArgs] at e
    split at e
    · rename_i y hl
      obtain ⟨d0, f0⟩ := y
      split at e
      · rename_i as env1 ea
        cases e
        obtain ⟨v, hv, _⟩ := R.slot i d0 f0 hl
        refine ⟨v, hv, G, env, _, R, ea, fun vs H1 G1 S1 p1 => qq (v :: vs) H1 G1 S1 ⟨by simp [p1.len], fun j k w h1 h2 => ?_, fun j d w h1 h2 => ?_, fun j d w h1 h2 => ?_, fun j k d e' b h1 h2 h3 h4 => ?_⟩⟩
        · cases j with
          | zero => simp at h1 h2; subst h1; subst h2; exact hv
          | succ j => exact p1.at_ j k w (by simpa using h1) (by simpa using h2)
        · cases j with
          | zero => simp at h1
          | succ j => exact p1.val j d w (by simpa using h1) (by simpa using h2)
        · cases j with
          | zero => simp at h1
          | succ j => exact p1.own j d w (by simpa using h1) (by simpa using h2)
        · cases j with
          | zero => simp at h1
          | succ j =>
            cases k with
            | zero => simp at h2
            | succ k => rw [p1.dis j k d e' b (by simpa using h1) (by simpa using h2) (by simpa using h3) (by simpa using h4)]
      · cases e
    · cases e
theorem jargs_val {C : CallF} {ie : IE} {il : List IE} {q : Bool} (hi : ∀ i, ie ≠ .var i) (ha : JE X a q (ev C ie)) (hr : JArgs X es (evArgs C il)) (hn : NS a) : JArgs X (a :: es) (evArgs C (ie :: il)) := fun H0 =>
  PA.weak (pa_cons (ha H0) (hr H0) (star_cons hn)) fun σ H Q ⟨G, env, r, R, e, qq⟩ => by
    have e' : (match ev C ie env with
      | some (d, own, env1) => (match evArgs C il env1 with
        | some (as, env2) => some (Arg.val d own :: as, env2)
        | none => none)
      | none => none) = some r := by
      rw [← e]
      cases ie <;> first | exact absurd rfl (hi _) | (simp only [evArgs]; rfl) | simp only [evArgs]
    clear e
    split at e'
    · rename_i d own env1 ea
      split at e'
      · rename_i as env2 es
        cases e'
        refine ⟨G, env, _, R, ea, fun v H1 ⟨G1, S1, V1⟩ => ⟨G1, env1, _, S1.rel, es, fun vs H2 G2 S2 p => ?_⟩⟩
        have tmp : ∀ b, (H1 b = none ∨ MutA σ env1 b) → (H b = none ∨ MutA σ env b) := fun b z => z.elim (fun z => .inl (S1.un z)) fun z => .inr (S1.mutE b z)
        have hd : own = true → ∃ b, v = .ref b ∧ G2 b = none ∧ Cell X.K G2 H2 b d ∧ (H b = none ∨ MutA σ env b) ∧ ¬ MutA σ env2 b ∧ H1 b ≠ none ∧ ¬ MutA σ env1 b := fun z => by
          obtain ⟨b, rfl, n, c, _, fr, hm⟩ := V1.2 z
          obtain ⟨k1, k2, k3⟩ := S2.cell n c hm
          exact ⟨b, rfl, k1, k2, fr, k3, c.ne, hm⟩
        refine qq (v :: vs) H2 G2 (S1.trans S2 (by simp)) ⟨by simp [p.len], fun j k w h1 h2 => ?_, fun j d' w h1 h2 => ?_, fun j d' w h1 h2 => ?_, fun j k d' e' b h1 h2 h3 h4 => ?_⟩
        · cases j with
          | zero => simp at h1
          | succ j => exact p.at_ j k w (by simpa using h1) (by simpa using h2)
        · cases j with
          | zero =>
            simp at h1 h2
            obtain ⟨rfl, rfl⟩ := h1
            subst h2
            exact (V1.1 rfl).mono S2.le
          | succ j => exact p.val j d' w (by simpa using h1) (by simpa using h2)
        · cases j with
          | zero =>
            simp at h1 h2
            obtain ⟨rfl, rfl⟩ := h1
            subst h2
            obtain ⟨b, rfl, k1, k2, k3, k4, _⟩ := hd rfl
            exact ⟨b, rfl, k1, k2, k3, k4⟩
          | succ j =>
            obtain ⟨b, rfl, k1, k2, k3, k4⟩ := p.own j d' w (by simpa using h1) (by simpa using h2)
            exact ⟨b, rfl, k1, k2, tmp b k3, k4⟩
        · have cross : ∀ (k : Nat) e'', as[k]? = some (.val e'' true) → own = true → v = .ref b → vs[k]? = some (.ref b) → False := fun k e'' z1 z2 z3 z4 => by
            obtain ⟨b', eb, _, _, _, _, k5, k6⟩ := hd z2
            rw [z3] at eb
            cases eb
            obtain ⟨b'', eb, _, _, k7, _⟩ := p.own k e'' _ z1 z4
            cases eb
            exact k7.elim k5 k6
          cases j with
          | zero =>
            cases k with
            | zero => rfl
            | succ k =>
              simp at h1 h3
              exact (cross k e' (by simpa using h2) h1.2 h3 (by simpa using h4)).elim
          | succ j =>
            cases k with
            | zero =>
              simp at h2 h4
              exact (cross j d' (by simpa using h1) h2.2 h4 (by simpa using h3)).elim
            | succ k => rw [p.dis j k d' e' b (by simpa using h1) (by simpa using h2) (by simpa using h3) (by simpa using h4)]
      · cases e'
    · cases e'
end
end VI
set_option maxRecDepth 100000
set_option maxHeartbeats 4000000
/-! VI: a call of a def. -/
namespace VI
open PySem PySem.Spec PyProof.Rows L2
theorem argNow_at {env : En} {i : Nat} {d : PyData} {m : Bool} (h : argNow env (.at_ i) = some (d, m)) : ∃ f, look env i = some (d, f) ∧ (m = true ↔ f ≠ .p) := by
  simp only [argNow] at h
  cases hl : look env i with
  | none => rw [hl] at h; cases h
  | some x =>
    obtain ⟨d', f⟩ := x
    rw [hl] at h
    cases f <;> simp at h <;> obtain ⟨rfl, rfl⟩ := h <;> exact ⟨_, rfl, by simp⟩
theorem fl_if {m : Bool} : (if m = true then Fl.b else Fl.p) ≠ .p ↔ m = true := by cases m <;> simp
section
variable {K : PySem.W.Frag} {H0 G H G1 H1 : Hp} {σ : L2.St} {env env1 : En} {as : List Arg} {vs : List V} {l : List (PyData × Bool)}
/-- what a slot of the callee holds -/
theorem args_at (A : ArgsR K σ env H G1 H1 env1 as vs) (hl : argsNow env1 as = some l) {j : Nat} {d : PyData} {m : Bool} (h : l[j]? = some (d, m)) :
    (∃ v, vs[j]? = some v) ∧ ((∃ i f, as[j]? = some (.at_ i) ∧ look env1 i = some (d, f) ∧ (m = true ↔ f ≠ .p)) ∨ as[j]? = some (.val d m)) := by
  obtain ⟨h1, h2⟩ := argsNow_spec hl
  have hj : j < l.length := (List.getElem?_eq_some_iff.mp h).1
  have ha := List.getElem?_eq_getElem (l := as) (show j < as.length by omega)
  obtain ⟨x, h3, h4⟩ := h2 j _ ha
  rw [h] at h3
  cases h3
  refine ⟨⟨_, List.getElem?_eq_getElem (show j < vs.length by rw [A.len]; omega)⟩, ?_⟩
  cases e : as[j]'(by omega) with
  | at_ i =>
    rw [e] at h4
    obtain ⟨f, k1, k2⟩ := argNow_at h4
    exact .inl ⟨i, f, by rw [ha, e], k1, k2⟩
  | val d' o =>
    rw [e] at h4
    simp [argNow] at h4
    obtain ⟨rfl, rfl⟩ := h4
    exact .inr (by rw [ha, e])
theorem some_inj {v w : V} (h : some (some v) = some (some w)) : v = w := by simpa using h
/-- the callee's relation at the entry -/
theorem args_rel (S : SteE K H0 false G H σ env G1 H1 env1) (A : ArgsR K σ env H G1 H1 env1 as vs) (hl : argsNow env1 as = some l) (hn : (lent env1 as).Nodup) : Rel K H1 G1 H1 (vs.map some) (flag l) := by
  have hlen := (argsNow_spec hl).1
  have lk : ∀ j d f, look (flag l) j = some (d, f) → ∃ m, l[j]? = some (d, m) ∧ f = if m = true then .b else .p := fun j d f h => by
    rw [flag_look] at h
    cases e : l[j]? with
    | none => rw [e] at h; cases h
    | some x =>
      rw [e] at h
      simp at h
      exact ⟨x.2, by rw [← h.1], h.2.symm⟩
  have vl : ∀ (j : Nat) v, vs[j]? = some v → (vs.map some)[j]? = some (some v) := fun j v h => by rw [List.getElem?_map, h]; rfl
  have vr : ∀ (j : Nat) v, (vs.map some)[j]? = some (some v) → vs[j]? = some v := fun j v h => by
    rw [List.getElem?_map] at h
    cases e : vs[j]? with
    | none => rw [e] at h; cases h
    | some w => rw [e] at h; simp at h; rw [h]
  refine ⟨S.rel.le, fun a h => h, by rw [flag_length, hlen, List.length_map, A.len], fun j d f h => ?_, fun j d a h => ?_, fun j k d e f g a h1 n1 h2 n2 e1 e2 => ?_⟩
  · obtain ⟨m, h1, rfl⟩ := lk j d f h
    obtain ⟨⟨v, hv⟩, hc⟩ := args_at A hl h1
    refine ⟨v, vl j v hv, fun z => ?_, fun z => ?_⟩
    · have hm : m = false := by
        cases m with
        | false => rfl
        | true => simp at z
      subst hm
      rcases hc with ⟨i, f, k1, k2, k3⟩ | k1
      · obtain ⟨w, k4, k5, _⟩ := S.rel.slot i d f k2
        have := A.at_ j i v k1 hv
        rw [k4] at this
        rw [← some_inj this]
        refine k5 ?_
        cases f <;> simp at k3 <;> rfl
      · exact A.val j d v k1 hv
    · have hm : m = true := by
        cases m with
        | true => rfl
        | false => simp at z
      subst hm
      rcases hc with ⟨i, f, k1, k2, k3⟩ | k1
      · obtain ⟨w, k4, _, k5⟩ := S.rel.slot i d f k2
        have := A.at_ j i v k1 hv
        rw [k4] at this
        rw [← some_inj this]
        exact k5 (k3.mp rfl)
      · obtain ⟨a, rfl, k2, k3, _⟩ := A.own j d v k1 hv
        exact ⟨a, rfl, k2, k3⟩
  · obtain ⟨m, _, h2⟩ := lk j d .o h
    cases m <;> simp at h2
  · obtain ⟨m1, h3, rfl⟩ := lk j d f h1
    obtain ⟨m2, h4, rfl⟩ := lk k e g h2
    have hm1 : m1 = true := fl_if.mp n1
    have hm2 : m2 = true := fl_if.mp n2
    subst hm1
    subst hm2
    have hv1 := vr j _ e1
    have hv2 := vr k _ e2
    obtain ⟨_, hc1⟩ := args_at A hl h3
    obtain ⟨_, hc2⟩ := args_at A hl h4
    rcases hc1 with ⟨i1, f1, k1, k2, k3⟩ | k1
    · have s1 := A.at_ j i1 _ k1 hv1
      rcases hc2 with ⟨i2, f2, k4, k5, k6⟩ | k4
      · have s2 := A.at_ k i2 _ k4 hv2
        have := S.rel.dist i1 i2 d e f1 f2 a k2 (k3.mp rfl) k5 (k6.mp rfl) s1 s2
        subst this
        exact lent_ix k2 (k3.mp rfl) hn k1 k4
      · obtain ⟨b, eb, _, _, _, hm⟩ := A.own k e _ k4 hv2
        cases eb
        exact absurd ⟨i1, d, f1, k2, k3.mp rfl, s1⟩ hm
    · rcases hc2 with ⟨i2, f2, k4, k5, k6⟩ | k4
      · have s2 := A.at_ k i2 _ k4 hv2
        obtain ⟨b, eb, _, _, _, hm⟩ := A.own j d _ k1 hv1
        cases eb
        exact absurd ⟨i2, e, f2, k5, k6.mp rfl, s2⟩ hm
      · exact A.dis j k d e a k1 k4 hv1 hv2
/-- what the callee may change -/
theorem args_mut (A : ArgsR K σ env H G1 H1 env1 as vs) (hl : argsNow env1 as = some l) {a : Addr} (m : MutA (vs.map some) (flag l) a) :
    (∃ (j i : Nat) (d : PyData) (f : Fl), as[j]? = some (.at_ i) ∧ vs[j]? = some (.ref a) ∧ look env1 i = some (d, f) ∧ f ≠ .p ∧ σ[i]? = some (some (.ref a))) ∨ ((H a = none ∨ MutA σ env a) ∧ ¬ MutA σ env1 a) := by
  obtain ⟨j, d, f, h1, h2, h3⟩ := m
  rw [flag_look] at h1
  cases e : l[j]? with
  | none => rw [e] at h1; cases h1
  | some x =>
    rw [e] at h1
    simp at h1
    have hx : x = (d, x.2) := by rw [← h1.1]
    obtain ⟨⟨v, hv⟩, hc⟩ := args_at A hl (hx ▸ e)
    have hv' : v = .ref a := by
      rw [List.getElem?_map, hv] at h3
      simpa using h3
    subst hv'
    have hm : x.2 = true := by
      cases e2 : x.2 with
      | true => rfl
      | false => rw [e2] at h1; simp at h1; exact absurd h1.2.symm h2
    rw [hm] at hc
    rcases hc with ⟨i, f', k1, k2, k3⟩ | k1
    · exact .inl ⟨j, i, d, f', k1, hv, k2, k3.mp rfl, A.at_ j i _ k1 hv⟩
    · obtain ⟨b, eb, _, _, k4, k5⟩ := A.own j d _ k1 hv
      cases eb
      exact .inr ⟨k4, k5⟩
theorem call_back {G2 H2 : Hp} {fs : List (PyData × Bool)} {d : PyData} {own : Bool} {v : V} (R0 : Rel K H0 G H σ env) (S : SteE K H0 false G H σ env G1 H1 env1) (A : ArgsR K σ env H G1 H1 env1 as vs) (hl : argsNow env1 as = some l) (hn : (lent env1 as).Nodup) (hfs : as.length = fs.length)
    (P : Post K H1 false (vs.map some) (flag l) G1 H1 (d, own, flag fs) v H2) : Post K H0 false σ env G H (d, own, back env1 as fs) v H2 := by
  obtain ⟨G2, T, V⟩ := P
  obtain ⟨bl, bs⟩ := back_spec hfs hn
  have M := fun a m => args_mut (l := l) A hl (a := a) m
  have notM : ∀ a o, H a = some o → ¬ MutA σ env a → ¬ MutA (vs.map some) (flag l) a := fun a o h n m => by
    rcases M a m with ⟨j, i, d, f, _, _, k1, k2, k3⟩ | ⟨k, _⟩
    · exact n (S.mutE a ⟨i, d, f, k1, k2, k3⟩)
    · rcases k with k | k
      · rw [h] at k; cases k
      · exact n k
  -- a mutable name behind was one ahead
  have mb : ∀ i x f, look (back env1 as fs) i = some (x, f) → f ≠ .p → ∃ y, look env1 i = some (y, f) := fun i x f h n => by
    rcases bs i x f h with ⟨j, m, d0, f0, _, _, k3, k4, k5⟩ | ⟨k, _⟩
    · cases m with
      | true => rw [k5]; exact ⟨d0, k3⟩
      | false => exact absurd k5 n
    · exact ⟨x, k⟩
  have mm : ∀ a, MutA σ (back env1 as fs) a → MutA σ env1 a := fun a ⟨i, x, f, h1, h2, h3⟩ => by
    obtain ⟨y, hy⟩ := mb i x f h1 h2
    exact ⟨i, y, f, hy, h2, h3⟩
  have leG : Same G G2 := S.le.trans T.le
  have doms : ∀ a, H a ≠ none → H2 a ≠ none := fun a h => T.doms a (S.doms a h)
  have R2 : Rel K H0 G2 H2 σ (back env1 as fs) := by
    refine ⟨T.rel.le, fun a h => doms a (R0.dom a h), by rw [bl]; exact S.rel.len, fun i x f h => ?_, fun i x a h1 h2 => ?_, fun i k x y f g a h1 n1 h2 n2 e1 e2 => ?_⟩
    · rcases bs i x f h with ⟨j, m, d0, f0, k1, k2, k3, k4, k5⟩ | ⟨k, k'⟩
      · obtain ⟨w, s1, _, _⟩ := S.rel.slot i d0 f0 k3
        have hj : j < vs.length := by
          rw [A.len]
          exact (List.getElem?_eq_some_iff.mp k1).1
        have hv := List.getElem?_eq_getElem hj
        have s2 := A.at_ j i _ k1 hv
        have lf : look (flag fs) j = some (x, if m = true then .b else .p) := by rw [flag_look, k2]; rfl
        obtain ⟨u, t1, t2, t3⟩ := T.rel.slot j x _ lf
        rw [List.getElem?_map, hv] at t1
        simp at t1
        subst t1
        refine ⟨_, s2, fun z => t2 ?_, fun z => t3 ?_⟩
        · cases m with
          | false => rfl
          | true => rw [k5] at z; exact absurd z k4
        · cases m with
          | true => simp
          | false => rw [k5] at z; exact absurd rfl z
      · obtain ⟨w, s1, s2, s3⟩ := S.rel.slot i x f k
        refine ⟨w, s1, fun z => (s2 z).mono T.le, fun z => ?_⟩
        obtain ⟨a, rfl, n, c⟩ := s3 z
        obtain ⟨o, ho⟩ := c.some
        have nm : ¬ MutA (vs.map some) (flag l) a := fun m => by
          rcases M a m with ⟨j, i', d', f', j1, j2, j3, j4, j5⟩ | ⟨_, j2⟩
          · have := S.rel.dist i i' x d' f f' a k z j3 j4 s1 j5
            subst this
            exact k' z j j1
          · exact j2 ⟨i, x, f, k, z, s1⟩
        refine ⟨a, rfl, ?_, c.keep T.le ((T.frame a o ho nm).trans ho.symm)⟩
        cases e : G2 a with
        | none => rfl
        | some o' =>
          rcases T.grow a (by rw [e]; exact fun z => nomatch z) with z' | z' | z'
          · exact absurd n z'
          · rw [ho] at z'; cases z'
          · exact absurd z' nm
    · obtain ⟨y, hy⟩ := mb i x .o h1 (fun z => nomatch z)
      exact S.rel.own i y a hy h2
    · obtain ⟨x', hx⟩ := mb i x f h1 n1
      obtain ⟨y', hy⟩ := mb k y g h2 n2
      exact S.rel.dist i k x' y' f g a hx n1 hy n2 e1 e2
  refine ⟨G2, ⟨⟨R2, leG, fun a h => ?_, fun a o h n => T.frame a o (S.frame a o h n) (notM a o h n), fun a m => .inl (S.mutE a (mm a m)), doms⟩, fun a m => S.mutE a (mm a m), fun z => nomatch z⟩, V.1, fun z => ?_⟩
  · rcases T.grow a h with z | z | z
    · exact S.grow a z
    · exact .inr (.inl (S.un z))
    · rcases M a z with ⟨j, i, d, f, _, _, k1, k2, k3⟩ | ⟨k, _⟩
      · exact .inr (.inr (S.mutE a ⟨i, d, f, k1, k2, k3⟩))
      · exact .inr k
  · obtain ⟨a, rfl, n, c, h1, _, _⟩ := V.2 z
    have hn' := S.un h1
    refine ⟨a, rfl, n, c, ?_, .inl hn', fun m => ?_⟩
    · cases e : H0 a with
      | none => rfl
      | some o => exact absurd hn' (R0.dom a (by rw [e]; exact fun z => nomatch z))
    · exact S.rel.mutNe (mm a m) h1
end
section
variable {X : Cx} {a e : Expr} {es : List Expr} {x : Str}
theorem je_call {C : CallF} {f n : Nat} {il : List IE} (hlen : ∀ args d own fs, C f args = some (d, own, fs) → args.length = n ∧ fs.length = n)
    (he : ∀ t, PA X es t → PE X e (fun σ H Q => t σ H fun vs H1 => spVI X.K n (C f) vs H1 Q E0)) (ha : JArgs X es (evArgs C il)) : JE X e false (ev C (.call f il)) := fun H0 => by
  refine PE.weak (he _ (ha H0)) fun σ H Q ⟨G, env, res, R, e, qq⟩ => ?_
  simp only [ev] at e
  split at e
  · rename_i as env1 ea
    unfold callNow at e
    split at e
    · rename_i l hl
      split at e
      · rename_i hn
        split at e
        · rename_i d own fs hc
          cases e
          refine ⟨G, env, _, R, ea, fun vs H1 G1 S A => ?_⟩
          obtain ⟨k1, k2⟩ := hlen _ _ _ _ hc
          have k3 := (argsNow_spec hl).1
          refine ⟨G1, l, d, own, fs, by rw [A.len]; show as.length = n; omega, k1, k2, args_rel S A hl hn, hc, fun v H2 P => ?_⟩
          exact qq v H2 (call_back (G2 := G1) R S A hl hn (by omega) P)
        · cases e
      · cases e
    · cases e
  · cases e
end
end VI
set_option maxRecDepth 100000
set_option maxHeartbeats 4000000
/-! VI: tests, comparisons, and, or, a if c else b. -/
namespace VI
open PySem PySem.Spec PyProof.Rows L2
/-- a test -/
def JT (X : Cx) (e : Expr) (q : Bool) (f : En → Option (Bool × En)) : Prop :=
  ∀ H0, PT X e (fun σ H Q => ∃ G env r, Rel X.K H0 G H σ env ∧ f env = some r ∧ ∀ H' G', SteE X.K H0 q G H σ env G' H' r.2 → Q r.1 H')
theorem PT.weak {X : Cx} {e : Expr} {t t' : TT} (h : PT X e t) (w : ∀ σ H Q, t' σ H Q → t σ H Q) : PT X e t' := ⟨fun pins s σ H Q I q => h.run pins s σ H Q I (w σ H Q q)⟩
theorem tru_rr {K : PySem.W.Frag} {G H : Hp} {d : PyData} {v : V} {b : Bool} (s : Same G H) (r : RR K G H d v) (e : truV d = some b) : TruV K v H b := by
  cases d with
  | none => cases r.atom rfl; cases e; rfl
  | bool k => cases r.atom rfl; cases e; rfl
  | int i => cases r.atom rfl; cases e; rfl
  | str x =>
    cases r.atom rfl
    simp only [truV] at e
    split at e
    · rename_i h
      cases e
      exact ⟨h, rfl⟩
    · cases e
  | list ds =>
    obtain ⟨a, vs, rfl, h, z, p⟩ := r.list s
    cases e
    exact .inl ⟨vs, h, by cases p <;> rfl⟩
  | tuple ds =>
    obtain ⟨a, vs, rfl, h, z, p⟩ := r.tuple s
    cases e
    exact .inr (.inl ⟨vs, h, by cases p <;> rfl⟩)
  | dict ds => cases e
theorem VR.step {K : PySem.W.Frag} {H0 G H G1 H1 G2 H2 : Hp} {σ : L2.St} {env env1 env2 : En} {d : PyData} {own : Bool} {v : V} {q : Bool} (h : VR K H0 σ env1 H1 G2 H2 env2 d own v) (S : SteE K H0 q G H σ env G1 H1 env1) : VR K H0 σ env H G2 H2 env2 d own v :=
  ⟨h.1, fun z => let ⟨a, e, n, c, n0, x, m⟩ := h.2 z; ⟨a, e, n, c, n0, x.elim (fun k => .inl (S.un k)) (fun k => .inr (S.mutE a k)), m⟩⟩
/-- the value kept, nobody's own -/
def keptF (f : En → Option Res) (env : En) : Option Res := match f env with
  | some (d, _, env1) => some (d, false, env1)
  | none => none
theorem JE.kept {X : Cx} {e : Expr} {q : Bool} {f : En → Option Res} (h : JE X e q f) : JE X e q (keptF f) := fun H0 => PE.weak (h.p H0) fun σ H Q ⟨G, env, r, R, e, qq⟩ => by
  unfold keptF at e
  split at e
  · rename_i d own env1 ef
    cases e
    exact ⟨G, env, (d, env1), R, by simp [pers, ef], fun v H' G' S p => qq v H' ⟨G', S, .pr p⟩⟩
  · cases e
section
variable {X : Cx} {e a b c : Expr} {q q1 q2 q3 : Bool}
theorem jt_val {f : En → Option (PyData × En)} (h : JR X e q f) (he : ∀ whole, isTrue e X.env whole = (do let v ← whole; standAt e.pos; holding [v] (truthy v))) : JT X e q (fun env => truE (f env)) := fun H0 =>
  PT.weak (pt_truth (h H0) he) fun σ H Q ⟨G, env, r, R, e, qq⟩ => by
    dsimp only [truE] at e
    split at e
    · rename_i d env1 ef
      split at e
      · rename_i k ek
        cases e
        refine ⟨G, env, _, R, ef, fun v H' G' S r => ⟨k, tru_rr S.rel.le r ek, qq H' G' S⟩⟩
      · cases e
    · cases e
theorem je_not {f : En → Option (PyData × En)} {pos : Pos} (h : JR X a q f) : JE X (.UnaryOp .Not a pos) q (fun env => match truE (f env) with
    | some (b, env1) => some (.bool (!b), false, env1)
    | none => none) := fun H0 => by
  refine ⟨fun pins s σ H Q I ⟨G, env, r, R, e, qq⟩ => ?_⟩
  cases ef : f env with
  | none => simp [truE, ef] at e
  | some x =>
    obtain ⟨d, env1⟩ := x
    cases ek : truV d with
    | none => simp [truE, ef, ek] at e
    | some k =>
      simp only [truE, ef, ek, Option.some.injEq] at e
      subst e
      refine UnaryOp_ (thn ((h H0).run pins s σ H (fun v H' => ∃ G', SteE X.K H0 q G H σ env G' H' env1 ∧ RR X.K G' H' d v) I ⟨G, env, _, R, ef, fun v H' G' S r => ⟨G', S, r⟩⟩) fun v s1 ⟨x, H1, I1, r1, G1, S, rr⟩ => ?_)
      exact not_of (thn (tru_ok pins s1 σ H1 x v (fun k' H' => k' = k ∧ H' = H1) I1 r1 ⟨k, tru_rr S.rel.le rr ek, rfl, rfl⟩) fun k' s2 ⟨H2, I2, e1, e2⟩ => by
        subst e1
        subst e2
        exact ⟨.bl (!k'), H2, I2, rfl, qq _ _ ⟨G1, S, .pr (.bl _)⟩⟩)
theorem jt_not {f : En → Option (Bool × En)} {pos : Pos} (h : JT X a q f) : JT X (.UnaryOp .Not a pos) q (fun env => match f env with
    | some (b, env1) => some (!b, env1)
    | none => none) := fun H0 => PT.weak (pt_not (h H0)) fun σ H Q ⟨G, env, r, R, e, qq⟩ => by
  dsimp only at e
  split at e
  · rename_i b env1 ef
    cases e
    exact ⟨G, env, _, R, ef, fun H' G' S => qq H' G' S⟩
  · cases e
theorem je_neg {C : CallF} {ie : IE} {pos : Pos} (h : JE X a q (ev C ie)) : JE X (.UnaryOp .USub a pos) q (ev C (.neg ie)) := fun H0 =>
  PE.weak (pe_un un_neg (h.p H0)) fun σ H Q ⟨G, env, r, R, e, qq⟩ => by
    simp only [ev] at e
    split at e
    · rename_i i own env1 ef
      cases e
      refine ⟨G, env, (.int i, env1), R, by simp [pers, ef], fun v H' G' S p => ?_⟩
      cases p
      exact ⟨i, rfl, qq _ _ ⟨G', S, .pr (.int _)⟩⟩
    · cases e
/-! ### and, or -/
theorem je_and2 {rest : List Expr} {pos : Pos} {f1 f2 : En → Option Res} (ha : JE X a q1 f1) (hb : JE X (.BoolOp .And (b :: rest) pos) q2 f2) : JE X (.BoolOp .And (a :: b :: rest) pos) (q1 && q2) (fun env => match f1 env with
    | some (d, _, env1) => (match truV d with
      | some true => f2 env1
      | some false => some (d, false, env1)
      | none => none)
    | none => none) := fun H0 => by
  refine ⟨fun pins s σ H Q I ⟨G, env, r, R, e, qq⟩ => ?_⟩
  dsimp only at e
  split at e
  · rename_i d own env1 ef
    refine BoolOp_and (thn ((ha.p H0).run pins s σ H (fun v H' => ∃ G', SteE X.K H0 q1 G H σ env G' H' env1 ∧ PR X.K G' d v) I ⟨G, env, (d, env1), R, by simp [pers, ef], fun v H' G' S r => ⟨G', S, r⟩⟩) fun v s1 ⟨x, H1, I1, r1, G1, S, rr⟩ => ?_)
    split at e
    · rename_i ek
      refine thn (tru_ok pins s1 σ H1 x v (fun k' H' => k' = true ∧ H' = H1) I1 r1 ⟨true, tru_rr S.rel.le (.inl rr) ek, rfl, rfl⟩) fun k' s2 ⟨H2, I2, e1, e2⟩ => ?_
      subst e1
      subst e2
      rw [if_pos rfl]
      exact (hb H0).run pins s2 σ H2 Q I2 ⟨G1, env1, r, S.rel, e, fun v2 H3 ⟨G3, S3, V3⟩ => qq v2 H3 ⟨G3, S.trans S3, V3.step S⟩⟩
    · rename_i ek
      cases e
      refine thn (tru_ok pins s1 σ H1 x v (fun k' H' => k' = false ∧ H' = H1) I1 r1 ⟨false, tru_rr S.rel.le (.inl rr) ek, rfl, rfl⟩) fun k' s2 ⟨H2, I2, e1, e2⟩ => ?_
      subst e1
      subst e2
      exact ⟨x, H2, I2, r1, qq _ _ ⟨G1, S.to (by simp; intro z _; exact z), .pr rr⟩⟩
    · cases e
  · cases e
theorem je_or2 {rest : List Expr} {pos : Pos} {f1 f2 : En → Option Res} (ha : JE X a q1 f1) (hb : JE X (.BoolOp .Or (b :: rest) pos) q2 f2) : JE X (.BoolOp .Or (a :: b :: rest) pos) (q1 && q2) (fun env => match f1 env with
    | some (d, _, env1) => (match truV d with
      | some false => f2 env1
      | some true => some (d, false, env1)
      | none => none)
    | none => none) := fun H0 => by
  refine ⟨fun pins s σ H Q I ⟨G, env, r, R, e, qq⟩ => ?_⟩
  dsimp only at e
  split at e
  · rename_i d own env1 ef
    refine BoolOp_or (thn ((ha.p H0).run pins s σ H (fun v H' => ∃ G', SteE X.K H0 q1 G H σ env G' H' env1 ∧ PR X.K G' d v) I ⟨G, env, (d, env1), R, by simp [pers, ef], fun v H' G' S r => ⟨G', S, r⟩⟩) fun v s1 ⟨x, H1, I1, r1, G1, S, rr⟩ => ?_)
    split at e
    · rename_i ek
      refine thn (tru_ok pins s1 σ H1 x v (fun k' H' => k' = false ∧ H' = H1) I1 r1 ⟨false, tru_rr S.rel.le (.inl rr) ek, rfl, rfl⟩) fun k' s2 ⟨H2, I2, e1, e2⟩ => ?_
      subst e1
      subst e2
      exact (hb H0).run pins s2 σ H2 Q I2 ⟨G1, env1, r, S.rel, e, fun v2 H3 ⟨G3, S3, V3⟩ => qq v2 H3 ⟨G3, S.trans S3, V3.step S⟩⟩
    · rename_i ek
      cases e
      refine thn (tru_ok pins s1 σ H1 x v (fun k' H' => k' = true ∧ H' = H1) I1 r1 ⟨true, tru_rr S.rel.le (.inl rr) ek, rfl, rfl⟩) fun k' s2 ⟨H2, I2, e1, e2⟩ => ?_
      subst e1
      subst e2
      rw [if_pos rfl]
      exact ⟨x, H2, I2, r1, qq _ _ ⟨G1, S.to (by simp; intro z _; exact z), .pr rr⟩⟩
    · cases e
  · cases e
theorem je_one {op : BoolOp} {pos : Pos} {f : En → Option Res} (h : JE X a q f) : JE X (.BoolOp op [a] pos) q f := fun H0 => pe_one (h H0)
/-- .. as tests -/
def JW (X : Cx) (e : Expr) (q : Bool) (f : En → Option (Bool × En)) : Prop :=
  ∀ H0, PW X e (fun σ H Q => ∃ G env r, Rel X.K H0 G H σ env ∧ f env = some r ∧ ∀ H' G', SteE X.K H0 q G H σ env G' H' r.2 → Q r.1 H')
theorem PW.weak {X : Cx} {e : Expr} {t t' : TT} (h : PW X e t) (w : ∀ σ H Q, t' σ H Q → t σ H Q) : PW X e t' := ⟨fun wh pins s σ H Q I q => h.run wh pins s σ H Q I (w σ H Q q)⟩
theorem JW.t {f : En → Option (Bool × En)} (h : JW X e q f) : JT X e q f := fun H0 => (h H0).pt
theorem jw_and1 {f : En → Option (Bool × En)} {pos : Pos} (h : JT X a q f) : JW X (.BoolOp .And [a] pos) q f := fun H0 => pw_and1 (h H0)
theorem jw_or1 {f : En → Option (Bool × En)} {pos : Pos} (h : JT X a q f) : JW X (.BoolOp .Or [a] pos) q f := fun H0 => pw_or1 (h H0)
theorem jw_and2 {rest : List Expr} {pos : Pos} {f1 f2 : En → Option (Bool × En)} (ha : JT X a q1 f1) (hb : JW X (.BoolOp .And (b :: rest) pos) q2 f2) : JW X (.BoolOp .And (a :: b :: rest) pos) (q1 && q2) (fun env => match f1 env with
    | some (true, env1) => f2 env1
    | some (false, env1) => some (false, env1)
    | none => none) := fun H0 => PW.weak (pw_and (ha H0) (hb H0)) fun σ H Q ⟨G, env, r, R, e, qq⟩ => by
  dsimp only at e
  split at e
  · rename_i env1 ef
    exact ⟨G, env, _, R, ef, fun H' G' S => ⟨G', env1, r, S.rel, e, fun H2 G2 S2 => qq H2 G2 (S.trans S2)⟩⟩
  · rename_i env1 ef
    cases e
    exact ⟨G, env, _, R, ef, fun H' G' S => qq H' G' (S.to (by simp; intro z _; exact z))⟩
  · cases e
theorem jw_or2 {rest : List Expr} {pos : Pos} {f1 f2 : En → Option (Bool × En)} (ha : JT X a q1 f1) (hb : JW X (.BoolOp .Or (b :: rest) pos) q2 f2) : JW X (.BoolOp .Or (a :: b :: rest) pos) (q1 && q2) (fun env => match f1 env with
    | some (false, env1) => f2 env1
    | some (true, env1) => some (true, env1)
    | none => none) := fun H0 => PW.weak (pw_or (ha H0) (hb H0)) fun σ H Q ⟨G, env, r, R, e, qq⟩ => by
  dsimp only at e
  split at e
  · rename_i env1 ef
    exact ⟨G, env, _, R, ef, fun H' G' S => ⟨G', env1, r, S.rel, e, fun H2 G2 S2 => qq H2 G2 (S.trans S2)⟩⟩
  · rename_i env1 ef
    cases e
    exact ⟨G, env, _, R, ef, fun H' G' S => qq H' G' (S.to (by simp; intro z _; exact z))⟩
  · cases e
/-! ### a if c else b -/
theorem je_ifx {pos : Pos} {fc : En → Option (Bool × En)} {f1 f2 : En → Option Res} (hc : JT X c q1 fc) (ha : JE X a q2 f1) (hb : JE X b q3 f2) : JE X (.IfExp c a b pos) (q1 && q2 && q3) (fun env => match fc env with
    | some (true, env1) => keptF f1 env1
    | some (false, env1) => keptF f2 env1
    | none => none) := fun H0 => PE.weak (pe_ifExp (hc H0) (ha.kept H0) (hb.kept H0)) fun σ H Q ⟨G, env, r, R, e, qq⟩ => by
  dsimp only at e
  split at e
  · rename_i env1 ef
    refine ⟨G, env, _, R, ef, fun H' G' S => ?_⟩
    dsimp only
    rw [if_pos rfl]
    exact ⟨G', env1, r, S.rel, e, fun v H2 ⟨G2, S2, V2⟩ => qq v H2 ⟨G2, S.trans S2 (by simp; intro z z' _; exact ⟨z, z'⟩), V2.step S⟩⟩
  · rename_i env1 ef
    refine ⟨G, env, _, R, ef, fun H' G' S => ?_⟩
    exact ⟨G', env1, r, S.rel, e, fun v H2 ⟨G2, S2, V2⟩ => qq v H2 ⟨G2, S.trans S2 (by simp; intro z _ z'; exact ⟨z, z'⟩), V2.step S⟩⟩
  · cases e
theorem jt_ifx {pos : Pos} {fc f1 f2 : En → Option (Bool × En)} (hc : JT X c q1 fc) (ha : JT X a q2 f1) (hb : JT X b q3 f2) : JT X (.IfExp c a b pos) (q1 && q2 && q3) (fun env => match fc env with
    | some (true, env1) => f1 env1
    | some (false, env1) => f2 env1
    | none => none) := fun H0 => by
  refine ⟨fun pins s σ H Q I ⟨G, env, r, R, e, qq⟩ => ?_⟩
  show wpAny (model X.prog X.w) X.A (do
    if ← PySem.isTrue c X.env (eval c X.env) then PySem.isTrue a X.env (eval a X.env) else PySem.isTrue b X.env (eval b X.env)) _ X.xe s
  dsimp only at e
  split at e
  · rename_i env1 ef
    refine wpAny_bind (thn ((hc H0).run pins s σ H (fun k H' => k = true ∧ ∃ G', SteE X.K H0 q1 G H σ env G' H' env1) I ⟨G, env, _, R, ef, fun H' G' S => ⟨rfl, G', S⟩⟩) fun k s1 ⟨H1, I1, ek, G1, S⟩ => ?_)
    subst ek
    exact (ha H0).run pins s1 σ H1 Q I1 ⟨G1, env1, r, S.rel, e, fun H2 G2 S2 => qq H2 G2 (S.trans S2 (by simp; intro z z' _; exact ⟨z, z'⟩))⟩
  · rename_i env1 ef
    refine wpAny_bind (thn ((hc H0).run pins s σ H (fun k H' => k = false ∧ ∃ G', SteE X.K H0 q1 G H σ env G' H' env1) I ⟨G, env, _, R, ef, fun H' G' S => ⟨rfl, G', S⟩⟩) fun k s1 ⟨H1, I1, ek, G1, S⟩ => ?_)
    subst ek
    exact (hb H0).run pins s1 σ H1 Q I1 ⟨G1, env1, r, S.rel, e, fun H2 G2 S2 => qq H2 G2 (S.trans S2 (by simp; intro z _ z'; exact ⟨z, z'⟩))⟩
  · cases e
/-! ### comparisons -/
theorem jt_cmp {op : CmpOp} {o : COp} {fa fb : En → Option (PyData × En)} {pos : Pos} (hop : CmpS X (compareOp op) (copV o)) (hm : behindInMarks op b = false) (ha : JF X a q1 q2 fa) (hb : JR X b q2 fb) :
    JT X (.Compare a [op] [b] pos) (q1 && q2) (fun env => match fa env with
      | some (x, env1) => (match fb env1 with
        | some (y, env2) => (match copV o x y with
          | some z => some (z, env2)
          | none => none)
        | none => none)
      | none => none) := fun H0 => by
  obtain ⟨r, hr, hop⟩ := hop
  refine PT.weak (pt_cmpR hr (ha H0) (hb H0) hm) fun σ H Q ⟨G, env, res, R, e, qq⟩ => ?_
  dsimp only at e
  split at e
  · rename_i d1 env1 ea
    split at e
    · rename_i d2 env2 eb
      split at e
      · rename_i z eg
        cases e
        refine ⟨G, env, _, R, ea, fun v H0' G0 S1 p1 r1 => ⟨G0, env1, _, S1.rel, eb, fun w H1 G1 S2 r2 => ?_⟩⟩
        have S : SteE X.K H0 (q1 && q2) G H σ env G1 H1 env2 := S1.trans S2
        exact hop G1 H1 d1 d2 v w z _ S.rel.le (keep1 S2 p1 r1) r2 eg ⟨z, rfl, qq _ _ S⟩
      · cases e
    · cases e
  · cases e
theorem je_cmp {C : CallF} {op : CmpOp} {o : COp} {ia ib : IE} {pos : Pos} (hop : CmpS X (compareOp op) (copV o)) (hm : behindInMarks op b = false) (ha : JF X a q1 (quiet ib) (fstOf (quiet ib) ia (ev C ia))) (hb : JR X b (quiet ib) (rdOf ib (ev C ib))) :
    JE X (.Compare a [op] [b] pos) (q1 && quiet ib) (ev C (.cmp o ia ib)) := fun H0 =>
  PE.weak (je_two hop.op (fun r ta tb hr h1 h2 => pe_cmpR hr h1 h2 hm) ha hb H0) fun σ H Q ⟨G, env, r, R, e, qq⟩ => ⟨G, env, r, R, (by
    simp only [ev] at e
    have e' : (match fstOf (quiet ib) ia (ev C ia) env with
      | some (x, env1) => (match rdOf ib (ev C ib) env1 with
        | some (y, env2) => (match copV o x y with
          | some z => some (PyData.bool z, false, env2)
          | none => none)
        | none => none)
      | none => none) = some r := e
    clear e
    cases ea : fstOf (quiet ib) ia (ev C ia) env with
    | none => rw [ea] at e'; cases e'
    | some p1 =>
      obtain ⟨d1, env1⟩ := p1
      rw [ea] at e'
      dsimp only at e'
      cases eb : rdOf ib (ev C ib) env1 with
      | none => rw [eb] at e'; cases e'
      | some p2 =>
        obtain ⟨d2, env2⟩ := p2
        rw [eb] at e'
        dsimp only at e'
        cases eg : copV o d1 d2 with
        | none => rw [eg] at e'; cases e'
        | some z =>
          rw [eg] at e'
          first | simp only [ea, eb, eg, copB]; exact e' | simp only [eb, eg, copB]; exact e' | simp only [eg, copB]; exact e'), qq⟩
theorem chn_st {C : CallF} {o p : COp} {ia ib ic : IE} {r r' : R2} {H0 : Hp} (h1 : ∀ (G H : Hp) (d e : PyData) (x y : V) (z : Bool) (Q : VK), Same G H → RR X.K G H d x → RR X.K G H e y → copV o d e = some z → Q (.bl z) H → r x y H Q)
    (h2 : ∀ (G H : Hp) (d e : PyData) (x y : V) (z : Bool) (Q : VK), Same G H → RR X.K G H d x → RR X.K G H e y → copV p d e = some z → Q (.bl z) H → r' x y H Q) {σ : L2.St} {H G : Hp} {env env' : En} {z : Bool} {Q : VK} (R : Rel X.K H0 G H σ env)
    (e : ev C (.chn o p ia ib ic) env = some (.bool z, false, env')) (qq : ∀ H' G', SteE X.K H0 (q1 && quiet ib && quiet ic) G H σ env G' H' env' → Q (.bl z) H') :
    tChain r r' (fun σ H Q => ∃ G env r, Rel X.K H0 G H σ env ∧ fstOf (quiet ib) ia (ev C ia) env = some r ∧ ∀ v H' G', SteE X.K H0 q1 G H σ env G' H' r.2 → (quiet ib = false → PR X.K G' r.1 v) → RR X.K G' H' r.1 v → Q v H')
      (fun σ H Q => ∃ G env r, Rel X.K H0 G H σ env ∧ fstOf (quiet ic) ib (ev C ib) env = some r ∧ ∀ v H' G', SteE X.K H0 (quiet ib) G H σ env G' H' r.2 → (quiet ic = false → PR X.K G' r.1 v) → RR X.K G' H' r.1 v → Q v H') (tR X.K H0 (quiet ic) (rdOf ic (ev C ic))) σ H Q := by
  simp only [ev] at e
  split at e
  · rename_i x env1 ea
    split at e
    · rename_i y env2 eb
      refine ⟨G, env, _, R, ea, fun v H1 G1 S1 p1 r1 => ⟨G1, env1, _, S1.rel, eb, fun w H2 G2 S2 p2 r2 => ?_⟩⟩
      have S := S1.trans (q := q1 && quiet ib) S2
      split at e
      · rename_i eo
        split at e
        · rename_i zz env3 ec
          split at e
          · rename_i k ep
            cases e
            refine h1 G2 H2 x y v w true _ S.rel.le (keep1 S2 p1 r1) r2 eo ⟨true, rfl, ?_⟩
            rw [if_pos rfl]
            refine ⟨G2, env2, _, S.rel, ec, fun u H3 G3 S3 r3 => ?_⟩
            have T := S.trans (q := q1 && quiet ib && quiet ic) S3
            exact h2 G3 H3 y zz w u z _ T.rel.le (keep1 S3 p2 r2) r3 ep (qq _ _ T)
          · cases e
        · cases e
      · rename_i eo
        cases e
        exact h1 G2 H2 x y v w false _ S.rel.le (keep1 S2 p1 r1) r2 eo ⟨false, rfl, by simpa using qq _ _ (S.to (by simp; intro z z' _; exact ⟨z, z'⟩))⟩
      · cases e
    · cases e
  · cases e
theorem chn_bool {C : CallF} {o p : COp} {ia ib ic : IE} {env : En} {r : Res} (e : ev C (.chn o p ia ib ic) env = some r) : ∃ z env', r = (.bool z, false, env') := by
  simp only [ev] at e
  repeat (split at e)
  all_goals first | cases e | exact ⟨_, _, (Option.some.inj e).symm⟩
  all_goals exact ⟨_, _, rfl⟩
theorem je_chn {C : CallF} {op op' : CmpOp} {o p : COp} {ia ib ic : IE} {pos : Pos} (h1 : CmpS X (compareOp op) (copV o)) (h2 : CmpS X (compareOp op') (copV p)) (hm : lastMarks [op, op'] [b, c] = false)
    (ha : JF X a q1 (quiet ib) (fstOf (quiet ib) ia (ev C ia))) (hb : JF X b (quiet ib) (quiet ic) (fstOf (quiet ic) ib (ev C ib))) (hc : JR X c (quiet ic) (rdOf ic (ev C ic))) :
    JE X (.Compare a [op, op'] [b, c] pos) (q1 && quiet ib && quiet ic) (ev C (.chn o p ia ib ic)) := fun H0 => by
  obtain ⟨r, hr, h1⟩ := h1
  obtain ⟨r', hr', h2⟩ := h2
  refine PE.weak (pe_chain hr hr' (ha H0) (hb H0) (hc H0) hm) fun σ H Q ⟨G, env, res, R, e, qq⟩ => ?_
  obtain ⟨z, env', rfl⟩ := chn_bool e
  exact chn_st (q1 := q1) h1 h2 R e fun H' G' S => qq _ _ ⟨G', S, .pr (.bl _)⟩
theorem jt_chn {C : CallF} {op op' : CmpOp} {o p : COp} {ia ib ic : IE} {pos : Pos} (h1 : CmpS X (compareOp op) (copV o)) (h2 : CmpS X (compareOp op') (copV p)) (hm : lastMarks [op, op'] [b, c] = false)
    (ha : JF X a q1 (quiet ib) (fstOf (quiet ib) ia (ev C ia))) (hb : JF X b (quiet ib) (quiet ic) (fstOf (quiet ic) ib (ev C ib))) (hc : JR X c (quiet ic) (rdOf ic (ev C ic))) :
    JT X (.Compare a [op, op'] [b, c] pos) (q1 && quiet ib && quiet ic) (fun env => truE (pers (ev C (.chn o p ia ib ic) env))) := fun H0 => by
  obtain ⟨r, hr, h1⟩ := h1
  obtain ⟨r', hr', h2⟩ := h2
  refine PT.weak (pt_chain hr hr' (ha H0) (hb H0) (hc H0) hm) fun σ H Q ⟨G, env, res, R, e, qq⟩ => ?_
  cases e0 : ev C (.chn o p ia ib ic) env with
  | none => simp [e0, pers, truE] at e
  | some res0 =>
    obtain ⟨z, env', rfl⟩ := chn_bool e0
    simp only [e0, pers, truE, truV, Option.some.injEq] at e
    subst e
    exact chn_st (q1 := q1) h1 h2 R e0 fun H' G' S => ⟨z, rfl, qq _ _ S⟩
end
end VI
set_option maxRecDepth 100000
set_option maxHeartbeats 4000000
/-! VI: statements. -/
namespace VI
open PySem PySem.Spec PyProof.Rows L2
section
variable {K : PySem.W.Frag} {H0 G H G1 H1 G2 H2 : Hp} {σ σ1 σ2 : L2.St} {env env1 env2 : En} {q : Bool} {A B : List Nat}
/-- a value's place behind a statement -/
def VS (K : PySem.W.Frag) (H0 : Hp) (σ : L2.St) (env : En) (H G' H' : Hp) (σ' : L2.St) (env' : En) (d : PyData) (own : Bool) (v : V) : Prop :=
  (own = false → PR K G' d v) ∧ (own = true → ∃ a, v = .ref a ∧ G' a = none ∧ Cell K G' H' a d ∧ H0 a = none ∧ (H a = none ∨ MutA σ env a) ∧ ¬ MutA σ' env' a)
/-- a statement's step: the slots outside A stay -/
structure StS (K : PySem.W.Frag) (H0 G H : Hp) (σ : L2.St) (env : En) (A : List Nat) (G' H' : Hp) (σ' : L2.St) (env' : En) : Prop extends Ste K H0 G H σ env G' H' σ' env' where
  out : ∀ i, i ∉ A → σ'[i]? = σ[i]?
theorem StS.refl (r : Rel K H0 G H σ env) : StS K H0 G H σ env A G H σ env := ⟨Ste.refl r, fun _ _ => rfl⟩
theorem StS.trans (x : StS K H0 G H σ env A G1 H1 σ1 env1) (y : StS K H0 G1 H1 σ1 env1 B G2 H2 σ2 env2) : StS K H0 G H σ env (A ++ B) G2 H2 σ2 env2 :=
  ⟨x.toSte.trans y.toSte, fun i h => by
    rw [List.mem_append, not_or] at h
    rw [y.out i h.2, x.out i h.1]⟩
theorem StS.more (x : StS K H0 G H σ env A G1 H1 σ1 env1) (h : ∀ i ∈ A, i ∈ B) : StS K H0 G H σ env B G1 H1 σ1 env1 := ⟨x.toSte, fun i n => x.out i fun m => n (h i m)⟩
theorem SteE.s (x : SteE K H0 q G H σ env G1 H1 env1) : StS K H0 G H σ env [] G1 H1 σ env1 := ⟨x.toSte, fun _ _ => rfl⟩
theorem VS.step {d : PyData} {own : Bool} {v : V} (h : VS K H0 σ1 env1 H1 G2 H2 σ2 env2 d own v) (S : Ste K H0 G H σ env G1 H1 σ1 env1) : VS K H0 σ env H G2 H2 σ2 env2 d own v :=
  ⟨h.1, fun z => let ⟨a, e, n, c, n0, x, m⟩ := h.2 z; ⟨a, e, n, c, n0, x.elim (fun k => .inl (S.un k)) (fun k => (S.muts a k).elim .inr .inl), m⟩⟩
theorem VR.s {d : PyData} {own : Bool} {v : V} (h : VR K H0 σ env H G1 H1 env1 d own v) : VS K H0 σ env H G1 H1 σ env1 d own v := h
/-- what a statement reaches -/
def EndS (K : PySem.W.Frag) (H0 : Hp) (A : List Nat) (D : Ends) (G H : Hp) (σ : L2.St) (env : En) (r : Flw × En) : Prop :=
  match r.1 with
  | .nx => ∀ σ' H' G', StS K H0 G H σ env A G' H' σ' r.2 → D.nx σ' H'
  | .bk => ∀ σ' H' G', StS K H0 G H σ env A G' H' σ' r.2 → D.bk σ' H'
  | .ct => ∀ σ' H' G', StS K H0 G H σ env A G' H' σ' r.2 → D.ct σ' H'
  | .rt d own => ∀ v σ' H' G', StS K H0 G H σ env A G' H' σ' r.2 → VS K H0 σ env H G' H' σ' r.2 d own v → D.rt v H'
theorem EndS.step {D D' : Ends} {r : Flw × En} (e : EndS K H0 A D G H σ env r) (S : StS K H0 G H σ env A G1 H1 σ1 env1) (hr : ∀ v H, D.rt v H → D'.rt v H) (hn : ∀ σ H, D.nx σ H → D'.nx σ H) (hb : ∀ σ H, D.bk σ H → D'.bk σ H) (hc : ∀ σ H, D.ct σ H → D'.ct σ H) : EndS K H0 A D' G1 H1 σ1 env1 r := by
  obtain ⟨f, env'⟩ := r
  cases f with
  | nx => exact fun σ' H' G' T => hn _ _ (e σ' H' G' ((S.trans T).more fun i h => (List.mem_append.mp h).elim id id))
  | bk => exact fun σ' H' G' T => hb _ _ (e σ' H' G' ((S.trans T).more fun i h => (List.mem_append.mp h).elim id id))
  | ct => exact fun σ' H' G' T => hc _ _ (e σ' H' G' ((S.trans T).more fun i h => (List.mem_append.mp h).elim id id))
  | rt d own => exact fun v σ' H' G' T V => hr _ _ (e v σ' H' G' ((S.trans T).more fun i h => (List.mem_append.mp h).elim id id) (V.step S.toSte))
theorem EndS.less {D : Ends} {r : Flw × En} (e : EndS K H0 B D G H σ env r) (h : ∀ i ∈ A, i ∈ B) : EndS K H0 A D G H σ env r := by
  obtain ⟨f, env'⟩ := r
  cases f with
  | nx => exact fun σ' H' G' T => e σ' H' G' (T.more h)
  | bk => exact fun σ' H' G' T => e σ' H' G' (T.more h)
  | ct => exact fun σ' H' G' T => e σ' H' G' (T.more h)
  | rt d own => exact fun v σ' H' G' T V => e v σ' H' G' (T.more h) V
def tS (K : PySem.W.Frag) (H0 : Hp) (A : List Nat) (f : En → Option (Flw × En)) : TS := fun D σ H => ∃ G env r, Rel K H0 G H σ env ∧ f env = some r ∧ EndS K H0 A D G H σ env r
/-- a name's store -/
theorem Rel.store (R : Rel K H0 G H σ env) {i : Nat} {d : PyData} {own : Bool} {v : V} (h1 : own = false → PR K G d v) (h2 : own = true → ∃ a, v = .ref a ∧ G a = none ∧ Cell K G H a d ∧ H0 a = none ∧ ¬ MutA σ env a) :
    Rel K H0 G H (σ.set i (some v)) (env.set i (some (d, if own then .o else .p))) := by
  by_cases hi : i < env.length
  case neg =>
    rw [List.set_eq_of_length_le (l := env) (by omega), List.set_eq_of_length_le (l := σ) (by rw [← R.len]; omega)]
    exact R
  have hσ : i < σ.length := by rw [← R.len]; exact hi
  have lk : ∀ j d' f, look (env.set i (some (d, if own then .o else .p))) j = some (d', f) → (j = i ∧ d' = d ∧ f = if own then .o else .p) ∨ (j ≠ i ∧ look env j = some (d', f)) := fun j d' f h => by
    by_cases e : i = j
    · subst e
      rw [look_set_same hi] at h
      cases h
      exact .inl ⟨rfl, rfl, rfl⟩
    · rw [look_set_ne e] at h
      exact .inr ⟨fun z => e z.symm, h⟩
  have ss : (σ.set i (some v))[i]? = some (some v) := List.getElem?_set_self hσ
  have sn : ∀ j, j ≠ i → (σ.set i (some v))[j]? = σ[j]? := fun j h => List.getElem?_set_ne (fun z => h z.symm)
  have mu : ∀ (f : Fl), f = (if own then Fl.o else .p) → f ≠ .p → own = true ∧ f = .o := fun f e n => by
    cases own with
    | true => exact ⟨rfl, by simpa using e⟩
    | false => exact absurd (by simpa using e) n
  refine ⟨R.le, R.dom, by simp [R.len], fun j d' f h => ?_, fun j d' a h hs => ?_, fun j k d1 d2 f1 f2 a g1 n1 g2 n2 e1 e2 => ?_⟩
  · rcases lk j d' f h with ⟨rfl, rfl, rfl⟩ | ⟨n, h⟩
    · refine ⟨v, ss, fun z => h1 ?_, fun z => ?_⟩
      · cases own with
        | true => simp at z
        | false => rfl
      · obtain ⟨a, rfl, n, c, _⟩ := h2 (mu _ rfl z).1
        exact ⟨a, rfl, n, c⟩
    · rw [sn j n]
      exact R.slot j d' f h
  · rcases lk j d' .o h with ⟨rfl, rfl, z⟩ | ⟨n, h⟩
    · rw [ss] at hs
      obtain ⟨b, e, _, _, n0, _⟩ := h2 (mu _ z (fun z => nomatch z)).1
      cases hs
      cases e
      exact n0
    · rw [sn j n] at hs
      exact R.own j d' a h hs
  · rcases lk j d1 f1 g1 with ⟨y1, _, z1⟩ | ⟨m1, g1⟩ <;> rcases lk k d2 f2 g2 with ⟨y2, _, z2⟩ | ⟨m2, g2⟩
    · rw [y1, y2]
    · rw [y1, ss] at e1
      rw [sn k m2] at e2
      obtain ⟨b, e, _, _, _, m⟩ := h2 (mu _ z1 n1).1
      cases e1
      cases e
      exact absurd ⟨k, d2, f2, g2, n2, e2⟩ m
    · rw [y2, ss] at e2
      rw [sn j m1] at e1
      obtain ⟨b, e, _, _, _, m⟩ := h2 (mu _ z2 n2).1
      cases e2
      cases e
      exact absurd ⟨j, d1, f1, g1, n1, e1⟩ m
    · rw [sn j m1] at e1
      rw [sn k m2] at e2
      exact R.dist j k d1 d2 f1 f2 a g1 n1 g2 n2 e1 e2
theorem Rel.storeS (R : Rel K H0 G H σ env) {i : Nat} {d : PyData} {own : Bool} {v : V} {Hs : Hp} {σ0 : L2.St} {env0 : En} (V : VS K H0 σ0 env0 Hs G H σ env d own v) :
    Rel K H0 G H (σ.set i (some v)) (env.set i (some (d, if own then .o else .p))) := R.store V.1 fun z => let ⟨a, e, n, c, n0, _, m⟩ := V.2 z; ⟨a, e, n, c, n0, m⟩
/-- an expression's step, then the store -/
theorem StS.store (S : SteE K H0 q G H σ env G1 H1 env1) {i : Nat} {d : PyData} {own : Bool} {v : V} (V : VR K H0 σ env H G1 H1 env1 d own v) :
    StS K H0 G H σ env [i] G1 H1 (σ.set i (some v)) (env1.set i (some (d, if own then .o else .p))) := by
  have R := S.rel.storeS (i := i) V.s
  by_cases hi : i < env1.length
  case neg =>
    rw [List.set_eq_of_length_le (l := env1) (by omega), List.set_eq_of_length_le (l := σ) (by rw [← S.rel.len]; omega)]
    exact S.s.more fun _ h => nomatch h
  have hσ : i < σ.length := by rw [← S.rel.len]; exact hi
  refine ⟨⟨R, S.le, S.grow, S.frame, fun a ⟨j, d', f, h1, h2, h3⟩ => ?_, S.doms⟩, fun j hj => List.getElem?_set_ne (fun z => hj (by simp [z]))⟩
  by_cases e : i = j
  · subst e
    rw [look_set_same hi] at h1
    rw [List.getElem?_set_self hσ] at h3
    cases own with
    | false => cases h1; exact absurd rfl h2
    | true =>
      obtain ⟨b, e, _, _, _, x, _⟩ := V.2 rfl
      cases h3
      cases e
      exact x.elim .inr .inl
  · rw [look_set_ne e] at h1
    rw [List.getElem?_set_ne e] at h3
    exact .inl (S.mutE a ⟨j, d', f, h1, h2, h3⟩)
end
section
variable {X : Cx} {e : Expr} {st : Stmt} {sts : List Stmt} {q : Bool} {A B : List Nat} {pos : Pos}
def JS (X : Cx) (st : Stmt) (A : List Nat) (f : En → Option (Flw × En)) : Prop := ∀ H0, PS X st (tS X.K H0 A f)
def JSs (X : Cx) (sts : List Stmt) (A : List Nat) (f : En → Option (Flw × En)) : Prop := ∀ H0, PSs X sts (tS X.K H0 A f)
theorem PS.weak {t t' : TS} (h : PS X st t) (w : ∀ D σ H, t' D σ H → t D σ H) : PS X st t' := ⟨fun pins s σ H D I q => h.run pins s σ H D I (w D σ H q)⟩
theorem PSs.weak {t t' : TS} (h : PSs X sts t) (w : ∀ D σ H, t' D σ H → t D σ H) : PSs X sts t' := ⟨fun pins s σ H D I q => h.run pins s σ H D I (w D σ H q)⟩
theorem JS.more {f : En → Option (Flw × En)} (h : JS X st A f) (hs : ∀ i ∈ A, i ∈ B) : JS X st B f := fun H0 => PS.weak (h H0) fun D σ H ⟨G, env, r, R, e, q⟩ => ⟨G, env, r, R, e, q.less hs⟩
theorem JSs.more {f : En → Option (Flw × En)} (h : JSs X sts A f) (hs : ∀ i ∈ A, i ∈ B) : JSs X sts B f := fun H0 => PSs.weak (h H0) fun D σ H ⟨G, env, r, R, e, q⟩ => ⟨G, env, r, R, e, q.less hs⟩
theorem jss_nil (C : CallF) : JSs X [] [] (exs C []) := fun H0 => PSs.weak pss_nil fun D σ H ⟨G, env, r, R, e, q⟩ => by
  simp only [exs] at e
  cases e
  exact q σ H G (StS.refl R)
theorem jss_cons {C : CallF} {s : IS} {r : List IS} (h1 : JS X st A (ex C s)) (h2 : JSs X sts B (exs C r)) : JSs X (st :: sts) (A ++ B) (exs C (s :: r)) := fun H0 => PSs.weak (pss_cons (h1 H0) (h2 H0)) fun D σ H ⟨G, env, res, R, e, q⟩ => by
  simp only [exs] at e
  split at e
  · rename_i env1 e1
    refine ⟨G, env, _, R, e1, fun σ' H' G' S => ⟨G', env1, res, S.rel, e, ?_⟩⟩
    exact (q.step (D' := D) (S.more fun i h => by simp [h]) (fun _ _ h => h) (fun _ _ h => h) (fun _ _ h => h) (fun _ _ h => h)).less fun i h => by simp [h]
  · rename_i f env1 nf e1
    cases e
    refine ⟨G, env, _, R, e1, ?_⟩
    have z := q.less (A := A) fun i h => by simp [h]
    cases f with
    | nx => exact (nf rfl).elim
    | bk => exact z
    | ct => exact z
    | rt d own => exact z
  · cases e
theorem js_doc {x j pos pos'} : JSs X sts A f → JSs X (.Expr (.Constant (.str x) j pos) pos' :: sts) A f := fun h H0 => PSs.weak (pss_cons ps_doc (h H0)) fun D σ H q => q
theorem js_pass (C : CallF) : JS X (.Pass pos) [] (ex C .pass) := fun H0 => PS.weak ps_pass fun D σ H ⟨G, env, r, R, e, q⟩ => by
  simp only [ex] at e
  cases e
  exact q σ H G (StS.refl R)
theorem js_brk (C : CallF) : JS X (.Break pos) [] (ex C .brk) := fun H0 => PS.weak ps_break fun D σ H ⟨G, env, r, R, e, q⟩ => by
  simp only [ex] at e
  cases e
  exact q σ H G (StS.refl R)
theorem js_cnt (C : CallF) : JS X (.Continue pos) [] (ex C .cnt) := fun H0 => PS.weak ps_continue fun D σ H ⟨G, env, r, R, e, q⟩ => by
  simp only [ex] at e
  cases e
  exact q σ H G (StS.refl R)
theorem js_retn (C : CallF) : JS X (.Return none pos) [] (ex C .retn) := fun H0 => PS.weak ps_retN fun D σ H ⟨G, env, r, R, e, q⟩ => by
  simp only [ex] at e
  cases e
  exact q .non σ H G (StS.refl R) ⟨fun _ => .non, fun z => nomatch z⟩
theorem js_ret {C : CallF} {ie : IE} (h : JE X e q (tkOf ie (ev C ie))) : JS X (.Return (some e) pos) [] (ex C (.ret ie)) := fun H0 => PS.weak (ps_ret (h H0)) fun D σ H ⟨G, env, r, R, e, qq⟩ => by
  simp only [ex] at e
  split at e
  · rename_i d own env1 ef
    cases e
    exact ⟨G, env, _, R, ef, fun v H' ⟨G', S, V⟩ => qq v σ H' G' S.s V.s⟩
  · cases e
theorem js_ex {C : CallF} {ie : IE} (hs : swapsWith e none pos.line X.env = pure false) (h : JE X e q (ev C ie)) : JS X (.Expr e pos) [] (ex C (.ex ie)) := fun H0 => PS.weak (ps_expr (h H0) hs) fun D σ H ⟨G, env, r, R, e, qq⟩ => by
  simp only [ex] at e
  split at e
  · rename_i d own env1 ef
    cases e
    exact ⟨G, env, _, R, ef, fun v H' ⟨G', S, V⟩ => qq σ H' G' S.s⟩
  · cases e
theorem js_if {C : CallF} {c : Expr} {a b : List Stmt} {ic : IE} {ia ib : List IS} (hc : JT X c q (tst ic (ev C ic))) (ha : JSs X a A (exs C ia)) (hb : JSs X b B (exs C ib)) : JS X (.If c a b pos) (A ++ B) (ex C (.ifs ic ia ib)) := fun H0 =>
  PS.weak (ps_if (hc H0) (ha H0) (hb H0)) fun D σ H ⟨G, env, r, R, e, qq⟩ => by
  simp only [ex] at e
  split at e
  · rename_i env1 ef
    refine ⟨G, env, _, R, ef, fun H' G' S => ?_⟩
    dsimp only
    rw [if_pos rfl]
    exact ⟨G', env1, r, S.rel, e, (qq.step (D' := D) (S.s.more fun _ h => nomatch h) (fun _ _ h => h) (fun _ _ h => h) (fun _ _ h => h) (fun _ _ h => h)).less fun i h => by simp [h]⟩
  · rename_i env1 ef
    refine ⟨G, env, _, R, ef, fun H' G' S => ?_⟩
    exact ⟨G', env1, r, S.rel, e, (qq.step (D' := D) (S.s.more fun _ h => nomatch h) (fun _ _ h => h) (fun _ _ h => h) (fun _ _ h => h) (fun _ _ h => h)).less fun i h => by simp [h]⟩
  · cases e
theorem js_asg {C : CallF} {i : Nat} {x : Str} {pos' : Pos} {ie : IE} (hN : X.N.Nodup) (hi : X.N[i]? = some x) (hx : Loc X.env.scope x) (hf : X.fn x = true) (hs : swapsWith e (some (.Name x pos')) pos.line X.env = pure false)
    (h : JE X e q (tkOf ie (ev C ie))) : JS X (.Assign [.Name x pos'] e pos) [i] (ex C (.asg (.nm i) ie)) := fun H0 => PS.weak (ps_set (pos := pos) hN hi hx (h H0) hs (.inl hf)) fun D σ H ⟨G, env, r, R, e, qq⟩ => by
  simp only [ex] at e
  split at e
  · rename_i d own env1 ef
    cases e
    exact ⟨G, env, _, R, ef, fun v H' ⟨G', S, V⟩ => qq _ _ _ (StS.store S V)⟩
  · cases e
end
end VI
set_option maxRecDepth 100000
set_option maxHeartbeats 4000000
/-! VI: targets, places, +=, loops. -/
namespace VI
open PySem PySem.Spec PyProof.Rows L2
section
variable {X : Cx} {e tg it : Expr} {st : Stmt} {sts : List Stmt} {q : Bool} {A B : List Nat} {pos : Pos}
/-! ### targets -/
def gT (K : PySem.W.Frag) (H0 : Hp) (A : List Nat) (f : PyData → En → Option En) : TG := fun v σ H Q => ∃ G env d env', Rel K H0 G H σ env ∧ PR K G d v ∧ f d env = some env' ∧ ∀ σ', StS K H0 G H σ env A G H σ' env' → Q σ' H
def gTs (K : PySem.W.Frag) (H0 : Hp) (A : List Nat) (f : List PyData → En → Option En) : TGs := fun vs σ H Q => ∃ G env ds env', Rel K H0 G H σ env ∧ PRs K G ds vs ∧ f ds env = some env' ∧ ∀ σ', StS K H0 G H σ env A G H σ' env' → Q σ' H
def JG (X : Cx) (tg : Expr) (A : List Nat) (f : PyData → En → Option En) : Prop := ∀ H0, PG X tg (gT X.K H0 A f)
def JGs (X : Cx) (ts : List Expr) (A : List Nat) (f : List PyData → En → Option En) : Prop := ∀ H0, PGs X ts (gTs X.K H0 A f)
theorem PG.weak {t t' : TG} (h : PG X tg t) (w : ∀ v σ H Q, t' v σ H Q → t v σ H Q) : PG X tg t' := ⟨fun pins s σ H v u Q I r q => h.run pins s σ H v u Q I r (w v σ H Q q)⟩
theorem PGs.weak {ts : List Expr} {t t' : TGs} (h : PGs X ts t) (w : ∀ v σ H Q, t' v σ H Q → t v σ H Q) : PGs X ts t' := ⟨fun pins s σ H v u Q I r q => h.run pins s σ H v u Q I r (w v σ H Q q)⟩
theorem PG.or {t t' : TG} (h : PG X tg t) (h' : PG X tg t') : PG X tg (fun v σ H Q => t v σ H Q ∨ t' v σ H Q) := ⟨fun pins s σ H v u Q I r q => q.elim (h.run pins s σ H v u Q I r) (h'.run pins s σ H v u Q I r)⟩
theorem jg_name {i : Nat} {x : Str} (hN : X.N.Nodup) (hi : X.N[i]? = some x) (hx : Loc X.env.scope x) (hf : X.fn x = true ∨ X.env.scope.names.lookup x = some .local) : JG X (.Name x pos) [i] (bind (.nm i)) := fun H0 =>
  PG.weak (pg_name hN hi hx hf) fun v σ H Q ⟨G, env, d, env', R, p, e, qq⟩ => by
    simp only [bind] at e
    cases e
    exact qq _ (StS.store (q := true) (own := false) (SteE.refl R) (.pr p))
theorem jgs_nil : JGs X [] [] (binds []) := fun H0 => PGs.weak pgs_nil fun vs σ H Q ⟨G, env, ds, env', R, p, e, qq⟩ => by
  cases p with
  | nil =>
    simp only [binds] at e
    cases e
    exact ⟨rfl, qq σ (StS.refl R)⟩
  | cons _ _ => simp only [binds] at e; cases e
theorem jgs_cons {t : Tgt} {l : List Tgt} {ts : List Expr} (h1 : JG X tg A (bind t)) (h2 : JGs X ts B (binds l)) (hs : (assignEach (tg :: ts) X.env).map (·.2) = assign tg X.env :: (assignEach ts X.env).map (·.2)) : JGs X (tg :: ts) (A ++ B) (binds (t :: l)) := fun H0 =>
  PGs.weak (pgs_cons (h1 H0) (h2 H0) hs) fun vs σ H Q ⟨G, env, ds, env', R, p, e, qq⟩ => by
    cases p with
    | nil => simp only [binds] at e; cases e
    | cons r t =>
      simp only [binds] at e
      split at e
      · rename_i env1 e1
        exact ⟨_, _, rfl, G, env, _, env1, R, r, e1, fun σ' S => ⟨G, env1, _, env', S.rel, t, e, fun σ2 S2 => qq σ2 (S.trans S2)⟩⟩
      · cases e
theorem binds_len : ∀ {l : List Tgt} {ds : List PyData} {env env' : En}, binds l ds env = some env' → l.length = ds.length
  | [], [], _, _, _ => rfl
  | t :: l, d :: ds, env, env', e => by
    simp only [binds] at e
    split at e
    · simp [binds_len e]
    · cases e
  | [], _ :: _, _, _, e => by simp only [binds] at e; cases e
  | _ :: _, [], _, _, e => by simp only [binds] at e; cases e
theorem jg_tup {l : List Tgt} {es : List Expr} {k : Nat} (hc : X.calm = true) (h : JGs X es A (binds l)) (hn : (assignEach es X.env).length = l.length) (hst : (assignEach es X.env).findIdx? (·.1) = none) : JG X (.Tuple es k pos) A (bind (.tp l)) := fun H0 =>
  PG.weak (PG.or (pg_tup hc (h H0) hn hst) (pg_unl hc (h H0) hn hst)) fun v σ H Q ⟨G, env, d, env', R, p, e, qq⟩ => by
    cases p with
    | tup hq hz hr =>
      simp only [bind] at e
      exact .inl ⟨_, _, rfl, same_sqT R.le hq, by rw [← hr.length, binds_len e], G, env, _, env', R, hr, e, qq⟩
    | lst hq hz hr =>
      simp only [bind] at e
      exact .inr ⟨_, _, rfl, R.le.seq hq, by rw [← hr.length, binds_len e], G, env, _, env', R, hr, e, qq⟩
    | _ => simp only [bind] at e; cases e
theorem js_asgT {C : CallF} {l : List Tgt} {ie : IE} (h : JE X e q (ev C ie)) (hg : JG X tg A (bind (.tp l))) (hs : swapsWithSole [tg] e pos.line X.env = pure false) (hw : swappedStores [tg] e X.env = pure none)
    (h1 : (assignEach [tg] X.env).map (·.2) = [assign tg X.env]) : JS X (.Assign [tg] e pos) A (ex C (.asg (.tp l) ie)) := fun H0 => PS.weak (ps_asg (h.kept H0) (hg H0) hs hw h1) fun D σ H ⟨G, env, r, R, e, qq⟩ => by
  simp only [ex] at e
  split at e
  · rename_i d own env1 ef
    split at e
    · rename_i env2 eb
      cases e
      refine ⟨G, env, (d, false, env1), R, by simp only [keptF, ef], fun v H' ⟨G', S, V⟩ => ⟨G', env1, d, env2, S.rel, V.1 rfl, eb, fun σ' S2 => ?_⟩⟩
      exact qq σ' H' G' (S.s.trans S2)
    · cases e
  · cases e
/-! ### name op= value -/
theorem js_aug {C : CallF} {i : Nat} {x : Str} {pos' : Pos} {op : Operator} {o : BOp} {ie : IE} {f : Int → Int → Int} (hN : X.N.Nodup) (hi : X.N[i]? = some x) (hx : Loc X.env.scope x) (hf : X.fn x = true) (hop : PIp X op (ipI f)) (ho : ∀ a b, augV o a b = some (f a b))
    (h : JE X e q (ev C ie)) : JS X (.AugAssign (.Name x pos') op e pos) [i] (ex C (.aug i o ie)) := fun H0 => PS.weak (ps_aug (pos := pos) hN hi hx (h.kept H0) hop (.inl hf)) fun D σ H ⟨G, env, r, R, e, qq⟩ => by
  simp only [ex] at e
  split at e
  · rename_i a fl hl
    split at e
    · rename_i b own env1 ef
      rw [ho] at e
      cases e
      obtain ⟨v, hv, p1, p2⟩ := R.slot i _ _ hl
      have ev' : v = .int a := by
        by_cases z : fl = .p
        · cases p1 z; rfl
        · obtain ⟨_, _, _, c⟩ := p2 z
          exact c.elim
      subst ev'
      refine ⟨_, hv, G, env, (.int b, false, env1), R, by simp only [keptF, ef], fun v H' ⟨G', S, V⟩ => ?_⟩
      cases V.1 rfl
      exact ⟨a, b, rfl, rfl, qq _ _ _ (StS.store (q := q) (own := false) S (.pr (.int _)))⟩
    · cases e
  · cases e
/-! ### name[key] = value -/
theorem any_pr {K : PySem.W.Frag} {G : Hp} {k : L2.Key} : ∀ {ds : List (PyData × PyData)} {kvs : List (L2.Key × V)}, PRk K G ds kvs → (ds.any fun kv => decide (keyOf kv.1 = some k)) = kvs.any fun kv => decide (kv.1 = k)
  | _, _, .nil => rfl
  | _, _, .cons r t => by
    rw [List.any_cons, List.any_cons, any_pr t]
    simp only [keyOf_kV, Option.some.injEq]
theorem map_pr {K : PySem.W.Frag} {G : Hp} {k : L2.Key} {d : PyData} {v : V} (p : PR K G d v) : ∀ {ds : List (PyData × PyData)} {kvs : List (L2.Key × V)}, PRk K G ds kvs →
    PRk K G (ds.map (fun kv => if keyOf kv.1 = some k then (kv.1, d) else kv)) (kvs.map (fun kv => if kv.1 = k then (kv.1, v) else kv))
  | _, _, .nil => .nil
  | _, _, .cons (k := k') r t => by
    rw [List.map_cons, List.map_cons]
    simp only [keyOf_kV, Option.some.injEq]
    by_cases e : k' = k
    · rw [if_pos e, if_pos e]
      exact .cons p (map_pr p t)
    · rw [if_neg e, if_neg e]
      exact .cons r (map_pr p t)
theorem PRk.append {K : PySem.W.Frag} {G : Hp} : ∀ {a b : List (PyData × PyData)} {x y : List (L2.Key × V)}, PRk K G a x → PRk K G b y → PRk K G (a ++ b) (x ++ y)
  | _, _, _, _, .nil, s => s
  | _, _, _, _, .cons r t, s => .cons r (t.append s)
theorem putD_pr {K : PySem.W.Frag} {G : Hp} {k : L2.Key} {d : PyData} {v : V} (p : PR K G d v) {ds : List (PyData × PyData)} {kvs : List (L2.Key × V)} (r : PRk K G ds kvs) : PRk K G (putD ds k d) (putK kvs k v) := by
  unfold putD putK
  rw [any_pr r]
  split
  · exact map_pr p r
  · exact r.append (.cons p .nil)
theorem js_set {C : CallF} {i : Nat} {x : Str} {k : Expr} {p1 p2 : Pos} {ie ik : IE} {q2 : Bool} (hu : X.A.units + 1 < cLine) (hto : PE X tg (tVar i)) (h : JE X e q (ev C ie)) (hk : JE X k q2 (ev C ik)) (hs : swapsWithSole [.Subscript tg k p1] e pos.line X.env = pure false) (hw : swappedStores [.Subscript tg k p1] e X.env = pure none)
    (h1 : (assignEach [.Subscript tg k p1] X.env).map (·.2) = [assign (.Subscript tg k p1) X.env]) (ha : ∀ v, assign (.Subscript tg k p1) X.env v = (do
      let ov ← holding [v] (eval tg X.env)
      let iv ← holding [v, ov] (eval k X.env)
      standAt p1
      holding [v, ov, iv] (setItem ov iv v)
      release [v, ov, iv] [])) : JS X (.Assign [.Subscript tg k p1] e pos) [] (ex C (.set i ik ie)) := fun H0 =>
  PS.weak (ps_asg (h.kept H0) (PG.or (pg_sub hto (hk.kept H0) set_list ha) (pg_sub hto (hk.kept H0) (set_dict hu) ha)) hs hw h1) fun D σ H ⟨G, env, r, R, e, qq⟩ => by
  simp only [ex] at e
  split at e
  · rename_i v own env1 ef
    split at e
    · rename_i sl0 hl0
      obtain ⟨d0, f0⟩ := sl0
      split at e
      · rename_i kd own2 env2 ek
        split at e
        · cases e
        · rename_i d f hf hl
          split at e
          · rename_i d' hd
            cases e
            refine ⟨G, env, (v, false, env1), R, by simp only [keptF, ef], fun u H1 ⟨G1, S1, V1⟩ => ?_⟩
            obtain ⟨w, hw, _, _⟩ := S1.rel.slot i _ _ hl0
            have go : ∀ (Q : V → Hp → Prop), (∀ y H2 G2, SteE X.K H0 q2 G1 H1 σ env1 G2 H2 env2 → PR X.K G2 kd y → Q y H2) → tF X.K H0 q2 (keptF (ev C ik)) σ H1 Q := fun Q hq =>
              ⟨G1, env1, (kd, false, env2), S1.rel, by simp only [keptF, ek], fun y H2 ⟨G2, S2, V2⟩ => hq y H2 G2 S2 (V2.1 rfl)⟩
            have fin : ∀ {G2 H2 : Hp} {a : Addr} {o : HO}, SteE X.K H0 q2 G1 H1 σ env1 G2 H2 env2 → σ[i]? = some (some (.ref a)) → Cell X.K G2 (upd H2 a o) a d' → D.nx σ (upd H2 a o) := fun {G2 H2 a o} S2 hs hc => by
              have S3 := S2.rel.write hl hf hs hc
              exact qq σ _ G2 (((S1.s.trans S2.s).trans S3.s).more fun _ h => by simp at h)
            unfold setV at hd
            split at hd
            · rename_i xs ix
              split at hd
              · rename_i j hj
                cases hd
                refine .inl ⟨w, hw, go _ fun y H2 G2 S2 p2 => ?_⟩
                obtain ⟨w2, hw2, _, c⟩ := S2.rel.slot i _ _ hl
                rw [hw] at hw2
                cases hw2
                obtain ⟨a, rfl, nG, vs, ea, hz, hr⟩ := c hf
                cases p2
                refine ⟨a, vs, ix, j, rfl, rfl, ea, by rw [← hr.length]; exact hj, fin S2 hw ⟨_, upd_same, by rw [List.length_set]; exact hz, hr.set j ((V1.1 rfl).mono S2.le)⟩⟩
              · cases hd
            · rename_i kvs
              split at hd
              · rename_i x hx
                split at hd
                · rename_i hz0
                  cases hd
                  refine .inr ⟨w, hw, go _ fun y H2 G2 S2 p2 => ?_⟩
                  obtain ⟨w2, hw2, _, c⟩ := S2.rel.slot i _ _ hl
                  rw [hw] at hw2
                  cases hw2
                  obtain ⟨a, rfl, nG, ws, ea, hz, hr⟩ := c hf
                  have ey := RR.key (H := H2) (.inl p2) hx
                  subst ey
                  have hl' := hr.length
                  refine ⟨a, _, rfl, .inl ⟨ws, x, ea, rfl, by omega, rfl⟩, fin S2 hw ⟨_, upd_same, ?_, putD_pr ((V1.1 rfl).mono S2.le) hr⟩⟩
                  have := length_putK ws x u
                  omega
                · cases hd
              · cases hd
            · cases hd
          · cases e
        · cases e
      · cases e
    · cases e
  · cases e
end
end VI
set_option maxRecDepth 100000
set_option maxHeartbeats 4000000
/-! VI: loops. -/
namespace VI
open PySem PySem.Spec PyProof.Rows L2
/-- an iterator that gives xs, whatever happens behind it -/
def WalkS (K : PySem.W.Frag) (J : L2.It) (G : Hp) (xs : List PyData) : Prop :=
  ∀ (G2 H2 : Hp) (i : Nat), Same G G2 → Same G2 H2 → (xs.length ≤ i → J.stop i H2) ∧ ∀ d, xs[i]? = some d → J.go i H2 ∧ ∀ v H3, J.yld i H2 v H3 → ∃ G3, VNew K G2 H2 G3 H3 d false v
def tI (K : PySem.W.Frag) (H0 : Hp) (q : Bool) (f : En → Option (List PyData × En)) : TI := fun σ H R => ∃ G env r, Rel K H0 G H σ env ∧ f env = some r ∧ ∀ J H' G', SteE K H0 q G H σ env G' H' r.2 → WalkS K J G' r.1 → R J H'
def JI (X : Cx) (tg it : Expr) (q : Bool) (f : En → Option (List PyData × En)) : Prop := ∀ H0, PI X tg it (tI X.K H0 q f)
theorem drop_get {α : Type} {xs : List α} {i : Nat} {x : α} {l : List α} (h : xs.drop i = x :: l) : xs[i]? = some x ∧ xs.drop (i + 1) = l := by
  have h1 : (xs.drop i)[0]? = some x := by rw [h]; rfl
  rw [List.getElem?_drop] at h1
  refine ⟨by simpa using h1, ?_⟩
  have h2 : (xs.drop i).drop 1 = l := by rw [h]; rfl
  rw [List.drop_drop] at h2
  exact h2
theorem drop_nil {α : Type} {xs : List α} {i : Nat} (h : xs.drop i = []) : xs.length ≤ i := by simpa using h
/-! ### a list that is gone over while nobody touches it -/
section
variable {K : PySem.W.Frag} {H0 G H G1 H1 : Hp} {σ σ1 : L2.St} {env env1 : En} {i : Nat} {d : PyData} {f : Fl} {a : Addr} {A : List Nat} {q : Bool}
theorem look_off {j : Nat} {x : PyData × Fl} (h : look (env.set i none) j = some x) : look env j = some x ∧ j ≠ i := by
  by_cases e : i = j
  · subst e
    by_cases hi : i < env.length
    · rw [look_set_same hi] at h
      cases h
    · rw [List.set_eq_of_length_le (l := env) (by omega)] at h
      exact absurd (look_lt h) hi
  · rw [look_set_ne e] at h
    exact ⟨h, fun z => e z.symm⟩
theorem mut_off {b : Addr} (m : MutA σ (env.set i none) b) : MutA σ env b := by
  obtain ⟨j, d, f, h1, h2, h3⟩ := m
  exact ⟨j, d, f, (look_off h1).1, h2, h3⟩
theorem Rel.hide (R : Rel K H0 G H σ env) : Rel K H0 G H σ (env.set i none) :=
  ⟨R.le, R.dom, by simpa using R.len, fun j d f h => R.slot j d f (look_off h).1, fun j d a h => R.own j d a (look_off h).1, fun j k d e f g a h1 n1 h2 n2 => R.dist j k d e f g a (look_off h1).1 n1 (look_off h2).1 n2⟩
theorem Rel.hidM (R : Rel K H0 G H σ env) (hl : look env i = some (d, f)) (hf : f ≠ .p) (hs : σ[i]? = some (some (.ref a))) : ¬ MutA σ (env.set i none) a := fun ⟨j, d', f', h1, h2, h3⟩ => by
  obtain ⟨k1, k2⟩ := look_off h1
  exact k2 (R.dist j i d' d f' f a k1 h2 hl hf h3 hs)
theorem Rel.unhide (R : Rel K H0 G H σ env) (hi : i < env.length) (hs : σ[i]? = some (some (.ref a))) (hf : f ≠ .p) (nG : G a = none) (c : Cell K G H a d) (m : ¬ MutA σ env a) (h0 : f = .o → H0 a = none) : Rel K H0 G H σ (env.set i (some (d, f))) := by
  have lk : ∀ j x g, look (env.set i (some (d, f))) j = some (x, g) → (j = i ∧ x = d ∧ g = f) ∨ (j ≠ i ∧ look env j = some (x, g)) := fun j x g h => by
    by_cases e : i = j
    · subst e
      rw [look_set_same hi] at h
      cases h
      exact .inl ⟨rfl, rfl, rfl⟩
    · rw [look_set_ne e] at h
      exact .inr ⟨fun z => e z.symm, h⟩
  refine ⟨R.le, R.dom, by simpa using R.len, fun j x g h => ?_, fun j x b h hs' => ?_, fun j k x y f1 f2 b h1 n1 h2 n2 e1 e2 => ?_⟩
  · rcases lk j x g h with ⟨rfl, rfl, rfl⟩ | ⟨_, h⟩
    · exact ⟨_, hs, fun z => absurd z hf, fun _ => ⟨a, rfl, nG, c⟩⟩
    · exact R.slot j x g h
  · rcases lk j x .o h with ⟨rfl, rfl, z⟩ | ⟨_, h⟩
    · rw [hs] at hs'
      cases hs'
      exact h0 z.symm
    · exact R.own j x b h hs'
  · rcases lk j x f1 h1 with ⟨y1, _, _⟩ | ⟨_, k1⟩ <;> rcases lk k y f2 h2 with ⟨y2, _, _⟩ | ⟨_, k2⟩
    · rw [y1, y2]
    · rw [y1, hs] at e1
      cases e1
      exact absurd ⟨k, y, f2, k2, n2, e2⟩ m
    · rw [y2, hs] at e2
      cases e2
      exact absurd ⟨j, x, f1, k1, n1, e1⟩ m
    · exact R.dist j k x y f1 f2 b k1 n1 k2 n2 e1 e2
/-- what is known of it -/
structure Hid (K : PySem.W.Frag) (H0 G H : Hp) (σ : L2.St) (env : En) (i : Nat) (d : PyData) (f : Fl) (a : Addr) : Prop where
  rel : Rel K H0 G H σ env
  lk : look env i = some (d, f)
  np : f ≠ .p
  at_ : σ[i]? = some (some (.ref a))
theorem Hid.cell (h : Hid K H0 G H σ env i d f a) : G a = none ∧ Cell K G H a d := by
  obtain ⟨v, e, _, c⟩ := h.rel.slot i d f h.lk
  obtain ⟨b, rfl, n, cc⟩ := c h.np
  rw [h.at_] at e
  cases e
  exact ⟨n, cc⟩
/-- behind a step that doesn't see it -/
theorem Hid.back (h : Hid K H0 G H σ env i d f a) (S : Ste K H0 G H σ (env.set i none) G1 H1 σ1 env1) (hs : σ1[i]? = some (some (.ref a))) : Ste K H0 G H σ env G1 H1 σ1 (env1.set i (some (d, f))) ∧ H1 a = H a ∧ G1 a = none ∧ ¬ MutA σ1 env1 a := by
  obtain ⟨nG, c⟩ := h.cell
  obtain ⟨o, ho⟩ := c.some
  have hm := h.rel.hidM h.lk h.np h.at_
  have h1 := S.frame a o ho hm
  have g1 : G1 a = none := by
    cases z : G1 a with
    | none => rfl
    | some u =>
      rcases S.grow a (by rw [z]; exact fun z => nomatch z) with k | k | k
      · exact absurd nG k
      · rw [ho] at k; cases k
      · exact absurd k hm
  have m1 : ¬ MutA σ1 env1 a := fun m => by
    rcases S.muts a m with k | k
    · exact hm k
    · rw [ho] at k; cases k
  have hi : i < env1.length := by
    rw [S.rel.len]
    exact (List.getElem?_eq_some_iff.mp hs).1
  have R1 := S.rel.unhide hi hs h.np g1 (c.keep S.le (h1.trans ho.symm)) m1 fun z => by
    have := h.lk
    rw [z] at this
    exact h.rel.own i d a this h.at_
  have mm : ∀ b, MutA σ1 (env1.set i (some (d, f))) b → b = a ∨ MutA σ1 env1 b := fun b ⟨j, x, g, k1, k2, k3⟩ => by
    by_cases e : i = j
    · subst e
      rw [hs] at k3
      cases k3
      exact .inl rfl
    · rw [look_set_ne e] at k1
      exact .inr ⟨j, x, g, k1, k2, k3⟩
  refine ⟨⟨R1, S.le, fun b z => (S.grow b z).imp id (Or.imp id mut_off), fun b o' k n => S.frame b o' k fun m => n (mut_off m), fun b m => ?_, S.doms⟩, h1.trans ho.symm, g1, m1⟩
  rcases mm b m with rfl | m
  · exact .inl ⟨i, d, f, h.lk, h.np, h.at_⟩
  · exact (S.muts b m).imp mut_off id
theorem Hid.backS (h : Hid K H0 G H σ env i d f a) (S : StS K H0 G H σ (env.set i none) A G1 H1 σ1 env1) (hA : i ∉ A) : StS K H0 G H σ env A G1 H1 σ1 (env1.set i (some (d, f))) :=
  ⟨(h.back S.toSte ((S.out i hA).trans h.at_)).1, S.out⟩
theorem Hid.backV (h : Hid K H0 G H σ env i d f a) (S : StS K H0 G H σ (env.set i none) A G1 H1 σ1 env1) (hA : i ∉ A) {x : PyData} {own : Bool} {v : V} (V : VS K H0 σ (env.set i none) H G1 H1 σ1 env1 x own v) : VS K H0 σ env H G1 H1 σ1 (env1.set i (some (d, f))) x own v := by
  refine ⟨V.1, fun z => ?_⟩
  obtain ⟨b, e, n, c, n0, w, m⟩ := V.2 z
  obtain ⟨_, c0⟩ := h.cell
  have hs := (S.out i hA).trans h.at_
  refine ⟨b, e, n, c, n0, w.imp id mut_off, fun ⟨j, y, g, k1, k2, k3⟩ => ?_⟩
  by_cases e : i = j
  · subst e
    rw [hs] at k3
    cases k3
    rcases w with w | w
    · obtain ⟨o, ho⟩ := c0.some
      rw [ho] at w
      cases w
    · exact h.rel.hidM h.lk h.np h.at_ w
  · rw [look_set_ne e] at k1
    exact m ⟨j, y, g, k1, k2, k3⟩
theorem Hid.backE (h : Hid K H0 G H σ env i d f a) (S : SteE K H0 false G H σ (env.set i none) G1 H1 env1) : SteE K H0 false G H σ env G1 H1 (env1.set i (some (d, f))) := by
  refine ⟨(h.back S.toSte h.at_).1, fun b ⟨j, x, g, k1, k2, k3⟩ => ?_, fun z => nomatch z⟩
  by_cases e : i = j
  · subst e
    rw [h.at_] at k3
    cases k3
    exact ⟨i, d, f, h.lk, h.np, h.at_⟩
  · rw [look_set_ne e] at k1
    exact mut_off (S.mutE b ⟨j, x, g, k1, k2, k3⟩)
theorem EndS.hid {D : Ends} {fl : Flw} (h : Hid K H0 G H σ env i d f a) (hA : i ∉ A) (e : EndS K H0 A D G H σ env (fl, env1.set i (some (d, f)))) : EndS K H0 A D G H σ (env.set i none) (fl, env1) := by
  cases fl with
  | nx => exact fun σ' H' G' T => e σ' H' G' (h.backS T hA)
  | bk => exact fun σ' H' G' T => e σ' H' G' (h.backS T hA)
  | ct => exact fun σ' H' G' T => e σ' H' G' (h.backS T hA)
  | rt d own => exact fun v σ' H' G' T V => e v σ' H' G' (h.backS T hA) (h.backV T hA V)
end
section
variable {X : Cx} {e tg it : Expr} {st : Stmt} {body : List Stmt} {q : Bool} {A B : List Nat} {pos : Pos}
theorem js_whl {C : CallF} {c : Expr} {ic : IE} {ib : List IS} (hp : PassesOwn (model X.prog X.w) X.A X.env X.xe) (hc : JT X c q (tst ic (ev C ic))) (hb : JSs X body A (exs C ib)) : JS X (.While c body [] pos) A (ex C (.whl ic ib)) := fun H0 =>
  PS.weak (ps_while hp (hc H0) (hb H0)) fun D σ H ⟨G, env, r, R, e, qq⟩ => by
  simp only [ex] at e
  refine ⟨fun m σ1 H1 => ∃ G1 env1, StS X.K H0 G H σ env A G1 H1 σ1 env1 ∧ whlL (tst ic (ev C ic)) (exs C ib) m env1 = some r, ⟨_, G, env, StS.refl R, e⟩, fun m σ1 H1 ⟨G1, env1, S, e1⟩ => ?_⟩
  cases m with
  | zero => simp only [whlL] at e1; cases e1
  | succ m =>
    simp only [whlL] at e1
    have cl : ∀ i, i ∈ A ++ ([] : List Nat) → i ∈ A := fun i h => by simpa using h
    have cl2 : ∀ i, i ∈ A ++ A → i ∈ A := fun i h => by simpa using h
    split at e1
    · cases e1
    · rename_i env2 ec
      cases e1
      exact ⟨G1, env1, _, S.rel, ec, fun H2 G2 S2 => qq σ1 H2 G2 ((S.trans S2.s).more cl)⟩
    · rename_i env2 ec
      refine ⟨G1, env1, _, S.rel, ec, fun H2 G2 S2 => ?_⟩
      have T := (S.trans S2.s).more cl
      dsimp only
      rw [if_pos rfl]
      refine ⟨fun σ' H' => ∃ G' env', StS X.K H0 G H σ env A G' H' σ' env' ∧ whlL (tst ic (ev C ic)) (exs C ib) m env' = some r, fun σ' H' h => ⟨m, Nat.lt_succ_self m, h⟩, ?_⟩
      split at e1
      · cases e1
      · rename_i env3 eb
        exact ⟨G2, env2, _, T.rel, eb, fun σ' H' G' U => ⟨G', env3, (T.trans U).more cl2, e1⟩⟩
      · rename_i env3 eb
        exact ⟨G2, env2, _, T.rel, eb, fun σ' H' G' U => ⟨G', env3, (T.trans U).more cl2, e1⟩⟩
      · rename_i env3 eb
        cases e1
        exact ⟨G2, env2, _, T.rel, eb, fun σ' H' G' U => qq σ' H' G' ((T.trans U).more cl2)⟩
      · rename_i d o env3 eb
        cases e1
        exact ⟨G2, env2, _, T.rel, eb, fun v σ' H' G' U V => qq v σ' H' G' ((T.trans U).more cl2) (V.step T.toSte)⟩
/-- the turns of a for: J gives xs while Pc holds -/
theorem for_core {C : CallF} {t : Tgt} {ib : List IS} {H0 : Hp} {J : L2.It} {G H : Hp} {σ : L2.St} {env : En} {xs : List PyData} {Pc : Hp → Prop} {D : Ends} {r : Flw × En} (R : Rel X.K H0 G H σ env)
    (wk : ∀ (G2 H2 : Hp) (i : Nat), Same G G2 → Same G2 H2 → Pc H2 → (xs.length ≤ i → J.stop i H2) ∧ ∀ d, xs[i]? = some d → J.go i H2 ∧ ∀ v H3, J.yld i H2 v H3 → ∃ G3, VNew X.K G2 H2 G3 H3 d false v)
    (hP : ∀ G1 H1 σ1 env1, StS X.K H0 G H σ env (A ++ B) G1 H1 σ1 env1 → Pc H1) (e : forL t (exs C ib) xs env = some r) (qq : EndS X.K H0 (A ++ B) D G H σ env r) :
    ∃ W : Nat → Nat → L2.St → Hp → Prop, (∃ m, W 0 m σ H) ∧ ∀ i m σ H, W i m σ H → (J.stop i H ∧ D.nx σ H) ∨ (J.go i H ∧ ∃ N : L2.St → Hp → Prop, (∀ σ' H', N σ' H' → ∃ m', m' < m ∧ W (i + 1) m' σ' H') ∧
      ∀ x H', J.yld i H x H' → gT X.K H0 A (bind t) x σ H' fun σ2 H2 => tS X.K H0 B (exs C ib) { D with nx := N, ct := N, bk := D.nx } σ2 H2) := by
  refine ⟨fun i m σ1 H1 => m = xs.length - i ∧ i ≤ xs.length ∧ ∃ G1 env1, StS X.K H0 G H σ env (A ++ B) G1 H1 σ1 env1 ∧ Same G G1 ∧ forL t (exs C ib) (xs.drop i) env1 = some r,
    ⟨_, rfl, Nat.zero_le _, G, env, StS.refl R, Same.refl _, e⟩, ?_⟩
  rintro i m σ1 H1 ⟨rfl, hi, G1, env1, S, sg, e1⟩
  have pc := hP _ _ _ _ S
  cases hd : xs.drop i with
  | nil =>
    rw [hd] at e1
    simp only [forL] at e1
    cases e1
    exact .inl ⟨(wk G1 H1 i sg S.rel.le pc).1 (drop_nil hd), qq σ1 H1 G1 S⟩
  | cons x l =>
    rw [hd] at e1
    obtain ⟨hx, hl⟩ := drop_get hd
    have hlt : i < xs.length := (List.getElem?_eq_some_iff.mp hx).1
    obtain ⟨go, yl⟩ := (wk G1 H1 i sg S.rel.le pc).2 x hx
    refine .inr ⟨go, fun σ' H' => ∃ G2 env2, StS X.K H0 G H σ env (A ++ B) G2 H' σ' env2 ∧ Same G G2 ∧ forL t (exs C ib) (xs.drop (i + 1)) env2 = some r,
      fun σ' H' h => ⟨xs.length - (i + 1), by omega, rfl, hlt, h⟩, fun v H2 y => ?_⟩
    obtain ⟨G2, n⟩ := yl v H2 y
    obtain ⟨S2, V2⟩ := S.rel.vnew (q := true) n
    have T : StS X.K H0 G H σ env (A ++ B) G2 H2 σ1 env1 := (S.trans S2.s).more fun i h => by simpa using h
    have s2 : Same G G2 := sg.trans S2.le
    simp only [forL] at e1
    split at e1
    · cases e1
    · rename_i env2 eb
      refine ⟨G2, env1, x, env2, T.rel, V2.1 rfl, eb, fun σ3 S3 => ?_⟩
      have U : StS X.K H0 G H σ env (A ++ B) G2 H2 σ3 env2 := (T.trans S3).more fun i h => by simp only [List.mem_append] at h ⊢; rcases h with (h | h) | h <;> simp [h]
      have cl : ∀ i, i ∈ (A ++ B) ++ B → i ∈ A ++ B := fun i h => by simp only [List.mem_append] at h ⊢; rcases h with (h | h) | h <;> simp [h]
      split at e1
      · cases e1
      · rename_i env3 ec
        exact ⟨G2, env2, _, U.rel, ec, fun σ' H' G3 S4 => ⟨G3, env3, (U.trans S4).more cl, s2.trans S4.le, by rw [hl]; exact e1⟩⟩
      · rename_i env3 ec
        exact ⟨G2, env2, _, U.rel, ec, fun σ' H' G3 S4 => ⟨G3, env3, (U.trans S4).more cl, s2.trans S4.le, by rw [hl]; exact e1⟩⟩
      · rename_i env3 ec
        cases e1
        exact ⟨G2, env2, _, U.rel, ec, fun σ' H' G3 S4 => qq σ' H' G3 ((U.trans S4).more cl)⟩
      · rename_i d o env3 ec
        cases e1
        exact ⟨G2, env2, _, U.rel, ec, fun v σ' H' G3 S4 V => qq v σ' H' G3 ((U.trans S4).more cl) (V.step U.toSte)⟩
/-- a source that may be a name's own list -/
def tI2 (K : PySem.W.Frag) (H0 : Hp) (q : Bool) (f : En → Option (List PyData × En)) (g : En → Option (Nat × PyData × Fl × List PyData)) : TI := fun σ H R =>
  (∃ G env r, Rel K H0 G H σ env ∧ g env = none ∧ f env = some r ∧ ∀ J H' G', SteE K H0 q G H σ env G' H' r.2 → WalkS K J G' r.1 → R J H') ∨
  ∃ G env i d f xs, Rel K H0 G H σ env ∧ g env = some (i, d, f, xs) ∧ ∀ J a, Hid K H0 G H σ env i d f a → d = .list xs → J = Itl K a → R J H
def JI2 (X : Cx) (tg it : Expr) (q : Bool) (ii : It) (C : CallF) : Prop := ∀ H0, PI X tg it (tI2 X.K H0 q (evIt C ii) (hidOf ii))
/-- so, or over two names' own lists side by side -/
def tI3 (K : PySem.W.Frag) (H0 : Hp) (q : Bool) (f : En → Option (List PyData × En)) (g : En → Option (Nat × PyData × Fl × List PyData)) (g2 : En → Option ((Nat × PyData × Fl × List PyData) × (Nat × PyData × Fl × List PyData))) : TI := fun σ H R =>
  (∃ G env r, Rel K H0 G H σ env ∧ g env = none ∧ g2 env = none ∧ f env = some r ∧ ∀ J H' G', SteE K H0 q G H σ env G' H' r.2 → WalkS K J G' r.1 → R J H') ∨
  (∃ G env i d f xs, Rel K H0 G H σ env ∧ g env = some (i, d, f, xs) ∧ ∀ J a, Hid K H0 G H σ env i d f a → d = .list xs → J = Itl K a → R J H) ∨
  ∃ G env i j d f xs d' f' ys, Rel K H0 G H σ env ∧ g env = none ∧ g2 env = some ((i, d, f, xs), (j, d', f', ys)) ∧ ∀ J a b vs ws, Hid K H0 G H σ env i d f a → Hid K H0 G H σ (env.set i none) j d' f' b → H a = some (.lst vs) → H b = some (.lst ws) →
    (∀ (G2 H2 : Hp) (n : Nat), Same G G2 → Same G2 H2 → H2 a = some (.lst vs) → H2 b = some (.lst ws) → ((zipD xs ys).length ≤ n → J.stop n H2) ∧ ∀ dd, (zipD xs ys)[n]? = some dd → J.go n H2 ∧ ∀ v H3, J.yld n H2 v H3 → ∃ G3, VNew K G2 H2 G3 H3 dd false v) → R J H
def JI3 (X : Cx) (tg it : Expr) (q : Bool) (ii : It) (C : CallF) : Prop := ∀ H0, PI X tg it (tI3 X.K H0 q (evIt C ii) (hidOf ii) (hid2Of ii))
theorem wk_hid {K : PySem.W.Frag} {G : Hp} {a : Addr} {vs : List V} {ds : List PyData} (r : PRs K G ds vs) : ∀ (G2 H2 : Hp) (i : Nat), Same G G2 → Same G2 H2 → H2 a = some (.lst vs) →
    (ds.length ≤ i → (Itl K a).stop i H2) ∧ ∀ d, ds[i]? = some d → (Itl K a).go i H2 ∧ ∀ v H3, (Itl K a).yld i H2 v H3 → ∃ G3, VNew K G2 H2 G3 H3 d false v := fun G2 H2 i s t h => by
  have q : SqL K H2 a vs := .inl (.inl h)
  have hl := r.length
  refine ⟨fun z => ⟨vs, q, by omega⟩, fun d hd => ?_⟩
  obtain ⟨v, hv, pv⟩ := r.get hd
  refine ⟨⟨vs, v, q, hv⟩, fun u H3 ⟨e, y⟩ => ?_⟩
  subst e
  have := y vs q
  rw [hv] at this
  cases this
  exact ⟨G2, vn_val t (pv.mono s)⟩
theorem js_for {C : CallF} {t : Tgt} {ii : It} {ib : List IS} (hp : PassesOwn (model X.prog X.w) X.A X.env X.xe) (hc : X.calm = true) (hi : JI2 X tg it q ii C) (hA : A = tgs t) (hB : B = asgs ib) (hg : JG X tg A (bind t)) (hb : JSs X body B (exs C ib)) (hs : ∀ x, foldedSetIterable it X.env x = pure x) :
    JS X (.For tg it body [] pos) (A ++ B) (ex C (.for_ t ii ib)) := fun H0 =>
  PS.weak (ps_for hp hc (hi H0) (hg H0) (hb H0) hs) fun D σ H ⟨G, env, r, R, e, qq⟩ => by
  subst hA
  subst hB
  simp only [ex] at e
  split at e
  · rename_i i d f xs hh
    split at e
    · cases e
    · rename_i hn
      split at e
      · rename_i fl env2 ef
        cases e
        refine .inr ⟨G, env, i, d, f, xs, R, hh, fun J a hd ed ej => ?_⟩
        subst ej
        have hA : i ∉ tgs t ++ asgs ib := fun m => hn (by simpa using m)
        obtain ⟨nG, c⟩ := hd.cell
        rw [ed] at c
        obtain ⟨vs, hv, hz, hr⟩ := c
        refine for_core (Pc := fun H2 => H2 a = some (.lst vs)) hd.rel.hide (wk_hid hr) (fun G1 H1 σ1 env1 S => ?_) ef (EndS.hid hd hA qq)
        have := (hd.back S.toSte ((S.out i hA).trans hd.at_)).2.1
        rw [this]
        exact hv
      · cases e
  · rename_i hh
    split at e
    · rename_i xs env0 ei
      refine .inl ⟨G, env, _, R, hh, ei, fun J H' G' S0 wk => ?_⟩
      refine for_core (Pc := fun _ => True) S0.rel (fun G2 H2 i s t _ => wk G2 H2 i s t) (fun _ _ _ _ _ => True.intro) e ?_
      exact qq.step (D' := D) (S0.s.more fun _ h => nomatch h) (fun _ _ h => h) (fun _ _ h => h) (fun _ _ h => h) (fun _ _ h => h)
    · cases e
end
end VI
set_option maxRecDepth 100000
set_option maxHeartbeats 4000000
/-! VI: comprehensions. -/
namespace VI
open PySem PySem.Spec PyProof.Rows L2
theorem look_none {env : En} {i j : Nat} : look (env.set i none) j = if i = j then none else look env j := by
  by_cases e : i = j
  · subst e
    rw [if_pos rfl]
    by_cases h : i < env.length
    · exact look_set_same h
    · rw [List.set_eq_of_length_le (by omega)]
      unfold look
      rw [List.getElem?_eq_none (by omega)]
  · rw [if_neg e, look_set_ne e]
theorem look_wipe {env : En} {j : Nat} : ∀ {vs : List Nat}, look (wipeE env vs) j = if j ∈ vs then none else look env j
  | [] => by simp [wipeE]
  | i :: vs => by
    rw [wipeE, look_none, look_wipe]
    by_cases e : i = j
    · simp [e]
    · rw [if_neg e]
      simp only [List.mem_cons]
      by_cases h : j ∈ vs
      · simp [h]
      · rw [if_neg h, if_neg (fun z => z.elim (fun k => e k.symm) h)]
theorem wipeE_len {env : En} : ∀ {vs : List Nat}, (wipeE env vs).length = env.length
  | [] => rfl
  | i :: vs => by rw [wipeE, List.length_set, wipeE_len]
theorem unset_len {old : En} : ∀ {vs : List Nat} {env : En}, (unset old vs env).length = env.length
  | [], _ => rfl
  | i :: vs, env => by rw [unset, List.length_set, unset_len]
theorem look_unset {old : En} {j : Nat} {d : PyData} {f : Fl} : ∀ {vs : List Nat} {env : En}, look (unset old vs env) j = some (d, f) → (j ∈ vs ∧ f = .p ∧ look old j = some (d, .p)) ∨ (j ∉ vs ∧ look env j = some (d, f))
  | [], env, h => .inr ⟨by simp, h⟩
  | i :: vs, env, h => by
    rw [unset] at h
    by_cases e : i = j
    · subst e
      have hi := look_lt h
      rw [List.length_set] at hi
      rw [look_set_same hi] at h
      unfold keepP at h
      split at h
      · rename_i d' hl
        cases h
        exact .inl ⟨by simp, rfl, hl⟩
      · cases h
    · rw [look_set_ne e] at h
      rcases look_unset h with ⟨h1, h2, h3⟩ | ⟨h1, h2⟩
      · exact .inl ⟨by simp [h1], h2, h3⟩
      · exact .inr ⟨by simp only [List.mem_cons, not_or]; exact ⟨fun z => e z.symm, h1⟩, h2⟩
mutual
theorem bind_len : ∀ {t : Tgt} {d : PyData} {env env' : En}, bind t d env = some env' → env'.length = env.length
  | .nm i, d, env, env', e => by
    simp only [bind] at e
    cases e
    simp
  | .tp l, d, env, env', e => by
    cases d with
    | tuple ds => simp only [bind] at e; exact binds_len' e
    | list ds => simp only [bind] at e; exact binds_len' e
    | _ => simp only [bind] at e; cases e
theorem binds_len' : ∀ {l : List Tgt} {ds : List PyData} {env env' : En}, binds l ds env = some env' → env'.length = env.length
  | [], [], env, env', e => by
    simp only [binds] at e
    cases e
    rfl
  | t :: l, d :: ds, env, env', e => by
    simp only [binds] at e
    split at e
    · rename_i env1 e1
      rw [binds_len' e, bind_len e1]
    · cases e
  | [], _ :: _, _, _, e => by simp only [binds] at e; cases e
  | _ :: _, [], _, _, e => by simp only [binds] at e; cases e
end
theorem wipe_get {σ : L2.St} {j : Nat} : ∀ {vs : List Nat}, (wipe σ vs)[j]? = if j ∈ vs ∧ j < σ.length then some none else σ[j]?
  | [] => by simp [wipe]
  | i :: vs => by
    rw [wipe]
    by_cases e : i = j
    · subst e
      by_cases h : i < σ.length
      · rw [List.getElem?_set_self (by rw [wipe_length]; exact h), if_pos ⟨by simp, h⟩]
      · rw [if_neg (fun z => h z.2), List.getElem?_eq_none (by simp [wipe_length]; omega), List.getElem?_eq_none (by omega)]
    · rw [List.getElem?_set_ne e, wipe_get]
      simp only [List.mem_cons]
      by_cases h : j ∈ vs ∧ j < σ.length
      · rw [if_pos h, if_pos ⟨.inr h.1, h.2⟩]
      · rw [if_neg h, if_neg (fun z => h ⟨z.1.elim (fun k => (e k.symm).elim) id, z.2⟩)]
theorem wipe_eq {σ σ2 : L2.St} {vs : List Nat} (hl : σ2.length = σ.length) (h : ∀ i, i ∉ vs → σ2[i]? = (wipe σ vs)[i]?) : wipe σ2 vs = wipe σ vs := by
  apply List.ext_getElem?
  intro j
  rw [wipe_get]
  by_cases m : j ∈ vs
  · rw [wipe_get]
    by_cases z : j < σ.length
    · rw [if_pos ⟨m, by omega⟩, if_pos ⟨m, z⟩]
    · rw [if_neg (fun k => z (by omega)), if_neg (fun k => z k.2), List.getElem?_eq_none (by omega), List.getElem?_eq_none (by omega)]
  · rw [if_neg (fun k => m k.1), h j m]
section
variable {K : PySem.W.Frag} {H0 G H G1 H1 G2 H2 : Hp} {σ σ2 : L2.St} {env env1 env2 : En} {vs : List Nat}
theorem Rel.wiped (R : Rel K H0 G H σ env) : Rel K H0 G H (wipe σ vs) (wipeE env vs) := by
  have lk : ∀ j d f, look (wipeE env vs) j = some (d, f) → look env j = some (d, f) ∧ j ∉ vs := fun j d f h => by
    rw [look_wipe] at h
    by_cases m : j ∈ vs
    · rw [if_pos m] at h; cases h
    · rw [if_neg m] at h
      exact ⟨h, m⟩
  refine ⟨R.le, R.dom, by rw [wipeE_len, wipe_length]; exact R.len, fun j d f h => ?_, fun j d a h hs => ?_, fun j k d1 d2 f1 f2 a g1 n1 g2 n2 e1 e2 => ?_⟩
  · obtain ⟨h1, h2⟩ := lk j d f h
    rw [wipe_out h2]
    exact R.slot j d f h1
  · obtain ⟨h1, h2⟩ := lk j d .o h
    rw [wipe_out h2] at hs
    exact R.own j d a h1 hs
  · obtain ⟨h1, h2⟩ := lk j d1 f1 g1
    obtain ⟨h3, h4⟩ := lk k d2 f2 g2
    rw [wipe_out h2] at e1
    rw [wipe_out h4] at e2
    exact R.dist j k d1 d2 f1 f2 a h1 n1 h3 n2 e1 e2
theorem mutA_wipe {a : Addr} (m : MutA (wipe σ vs) (wipeE env vs) a) : MutA σ env a := by
  obtain ⟨j, d, f, h1, h2, h3⟩ := m
  rw [look_wipe] at h1
  by_cases z : j ∈ vs
  · rw [if_pos z] at h1; cases h1
  · rw [if_neg z] at h1
    rw [wipe_out z] at h3
    exact ⟨j, d, f, h1, h2, h3⟩
/-- within a block: the step, and nothing newly changeable -/
structure StB (K : PySem.W.Frag) (H0 G H : Hp) (σ : L2.St) (env : En) (G' H' : Hp) (σ' : L2.St) (env' : En) : Prop extends Ste K H0 G H σ env G' H' σ' env' where
  mutE : ∀ a, MutA σ' env' a → MutA σ env a
theorem StB.trans {G3 H3 : Hp} {σ3 : L2.St} {env3 : En} {σ1 : L2.St} (x : StB K H0 G H σ env G1 H1 σ1 env1) (y : StB K H0 G1 H1 σ1 env1 G3 H3 σ3 env3) : StB K H0 G H σ env G3 H3 σ3 env3 := ⟨x.toSte.trans y.toSte, fun a m => x.mutE a (y.mutE a m)⟩
theorem SteE.b {q : Bool} (x : SteE K H0 q G H σ env G1 H1 env1) : StB K H0 G H σ env G1 H1 σ env1 := ⟨x.toSte, x.mutE⟩
theorem StS.b {A : List Nat} (x : StS K H0 G H σ env A G H σ2 env2) : StB K H0 G H σ env G H σ2 env2 := ⟨x.toSte, fun a m => (x.muts a m).elim id fun n => absurd n (x.rel.mutNe m)⟩
theorem StB.wiped {σ1 : L2.St} (x : StB K H0 G H σ env G1 H1 σ1 env1) : StB K H0 G H σ env G1 H1 (wipe σ1 vs) (wipeE env1 vs) :=
  ⟨⟨x.rel.wiped, x.le, x.grow, x.frame, fun a m => x.muts a (mutA_wipe m), x.doms⟩, fun a m => x.mutE a (mutA_wipe m)⟩
/-- a cell that nobody names -/
theorem StB.cell {σ1 : L2.St} (x : StB K H0 G H σ env G1 H1 σ1 env1) {a : Addr} {o : HO} (n : G a = none) (e : H a = some o) (m : ¬ MutA σ env a) : G1 a = none ∧ H1 a = some o ∧ ¬ MutA σ1 env1 a := by
  refine ⟨?_, x.frame a o e m, fun z => m (x.mutE a z)⟩
  cases h : G1 a with
  | none => rfl
  | some u =>
    rcases x.grow a (by rw [h]; exact fun z => nomatch z) with z | z | z
    · exact absurd n z
    · rw [e] at z; cases z
    · exact absurd z m
theorem Rel.acc (R : Rel K H0 G H σ env) {a : Addr} {u : HO} (nG : G a = none) (m : ¬ MutA σ env a) : Rel K H0 G (upd H a u) σ env := by
  refine ⟨fun b o h => ?_, fun b h => ?_, R.len, fun j d f h => ?_, R.own, R.dist⟩
  · rw [upd_ne (ne_of_none h nG)]
    exact R.le b o h
  · by_cases e : b = a
    · rw [e, upd_same]; exact fun z => nomatch z
    · rw [upd_ne e]; exact R.dom b h
  · obtain ⟨v, e, p, c⟩ := R.slot j d f h
    refine ⟨v, e, p, fun z => ?_⟩
    obtain ⟨b, rfl, n, cc⟩ := c z
    exact ⟨b, rfl, n, cc.keep (Same.refl _) (upd_ne fun k => m (k ▸ ⟨j, d, f, h, z, e⟩))⟩
end
section
variable {K : PySem.W.Frag} {H0 G H G1 H1 G2 H2 : Hp} {σ σ2 : L2.St} {env env1 env2 : En} {vs : List Nat}
theorem StB.acc {D : Addr} {u : HO} (x : StB K H0 G H σ env G1 H1 σ2 env1) (n : H D = none) (nG : G1 D = none) (m : ¬ MutA σ2 env1 D) : StB K H0 G H σ env G1 (upd H1 D u) σ2 env1 :=
  ⟨⟨x.rel.acc nG m, x.le, x.grow, fun a o h k => by
    rw [upd_ne (fun e => by rw [e, n] at h; cases h)]
    exact x.frame a o h k, x.muts, fun a h => by
    by_cases e : a = D
    · rw [e, upd_same]; exact fun z => nomatch z
    · rw [upd_ne e]; exact x.doms a h⟩, x.mutE⟩
/-- out of the block -/
theorem StB.out {q : Bool} {env0 : En} (S0 : SteE K H0 q G H σ env G1 H1 env0) (x : StB K H0 G1 H1 (wipe σ vs) (wipeE env0 vs) G2 H2 (wipe σ vs) env2) : SteE K H0 false G H σ env G2 H2 (unset env0 vs env2) := by
  have lk : ∀ j d f, look (unset env0 vs env2) j = some (d, f) → (j ∈ vs ∧ f = .p ∧ look env0 j = some (d, .p)) ∨ (j ∉ vs ∧ look env2 j = some (d, f)) := fun j d f h => look_unset h
  have mu : ∀ a, MutA σ (unset env0 vs env2) a → MutA (wipe σ vs) env2 a := fun a ⟨j, d, f, h1, h2, h3⟩ => by
    rcases lk j d f h1 with ⟨_, z, _⟩ | ⟨m, h⟩
    · exact absurd z h2
    · exact ⟨j, d, f, h, h2, by rw [wipe_out m]; exact h3⟩
  have mE : ∀ a, MutA σ (unset env0 vs env2) a → MutA σ env0 a := fun a m => mutA_wipe (x.mutE a (mu a m))
  have R : Rel K H0 G2 H2 σ (unset env0 vs env2) := by
    refine ⟨x.rel.le, x.rel.dom, by rw [unset_len, x.rel.len, wipe_length], fun j d f h => ?_, fun j d a h hs => ?_, fun j k d1 d2 f1 f2 a g1 n1 g2 n2 e1 e2 => ?_⟩
    · rcases lk j d f h with ⟨m, rfl, h'⟩ | ⟨m, h'⟩
      · obtain ⟨v, e, p, _⟩ := S0.rel.slot j d .p h'
        exact ⟨v, e, fun z => (p z).mono x.le, fun z => absurd rfl z⟩
      · have := x.rel.slot j d f h'
        rw [wipe_out m] at this
        exact this
    · rcases lk j d .o h with ⟨_, z, _⟩ | ⟨m, h'⟩
      · cases z
      · exact x.rel.own j d a h' (by rw [wipe_out m]; exact hs)
    · rcases lk j d1 f1 g1 with ⟨_, z, _⟩ | ⟨m1, h1⟩
      · exact absurd z n1
      · rcases lk k d2 f2 g2 with ⟨_, z, _⟩ | ⟨m2, h2⟩
        · exact absurd z n2
        · exact x.rel.dist j k d1 d2 f1 f2 a h1 n1 h2 n2 (by rw [wipe_out m1]; exact e1) (by rw [wipe_out m2]; exact e2)
  refine ⟨⟨R, S0.le.trans x.le, fun a h => ?_, fun a o h n => ?_, fun a m => .inl (S0.mutE a (mE a m)), fun a h => x.doms a (S0.doms a h)⟩, fun a m => S0.mutE a (mE a m), fun z => nomatch z⟩
  · rcases x.grow a h with z | z | z
    · exact S0.grow a z
    · exact .inr (.inl (S0.un z))
    · exact .inr (.inr (S0.mutE a (mutA_wipe z)))
  · exact x.frame a o (S0.frame a o h n) fun z => n (S0.mutE a (mutA_wipe z))
theorem mutA_unset {env0 : En} {a : Addr} (h : MutA σ (unset env0 vs env2) a) : MutA (wipe σ vs) env2 a := by
  obtain ⟨j, d, f, h1, h2, h3⟩ := h
  rcases look_unset h1 with ⟨_, z, _⟩ | ⟨m, h⟩
  · exact absurd z h2
  · exact ⟨j, d, f, h, h2, by rw [wipe_out m]; exact h3⟩
end
section
variable {X : Cx} {tg it elt : Expr} {ifs : List Expr} {q q1 q2 : Bool} {pos : Pos}
/-- a clause's tests -/
def JTs (X : Cx) (ifs : List Expr) (q : Bool) (f : En → Option (Bool × En)) : Prop :=
  ∀ H0, PTs X ifs (fun σ H Q => ∃ G env r, Rel X.K H0 G H σ env ∧ f env = some r ∧ ∀ H' G', SteE X.K H0 q G H σ env G' H' r.2 → Q r.1 H')
theorem PTs.weak {t t' : TT} (h : PTs X ifs t) (w : ∀ σ H Q, t' σ H Q → t σ H Q) : PTs X ifs t' := ⟨fun pins s σ H Q I q => h.run pins s σ H Q I (w σ H Q q)⟩
theorem jts_nil (C : CallF) : JTs X [] true (evCs C []) := fun H0 => PTs.weak pts_nil fun σ H Q ⟨G, env, r, R, e, qq⟩ => by
  simp only [evCs] at e
  cases e
  exact qq H G (SteE.refl R)
theorem jts_one {C : CallF} {c : Expr} {ic : IE} (h : JT X c q (tst ic (ev C ic))) : JTs X [c] q (evCs C [ic]) := fun H0 => PTs.weak (pts_one (h H0)) fun σ H Q ⟨G, env, r, R, e, qq⟩ => by
  simp only [evCs] at e
  split at e
  · rename_i env1 e1
    cases e
    exact ⟨G, env, _, R, e1, qq⟩
  · rename_i env1 e1
    cases e
    exact ⟨G, env, _, R, e1, qq⟩
  · cases e
/-- what is asked of a comprehension's block -/
structure BlkJ (X : Cx) (C : CallF) (tg : Expr) (ifs : List Expr) (elt : Expr) (scope : Scope) (t : Tgt) (cs : List IE) (ie : IE) (q1 q2 : Bool) : Prop where
  g : ∀ (s : Shared) (H : Hp) (Ca : Addr) (cl : List (Str × Addr)) (fp : List Addr), JG (X.blk s H scope (compEnvC scope cl Ca X.env) fp) tg (tgs t) (bind t)
  c : ∀ (s : Shared) (H : Hp) (Ca : Addr) (cl : List (Str × Addr)) (fp : List Addr), JTs (X.blk s H scope (compEnvC scope cl Ca X.env) fp) ifs q1 (evCs C cs)
  e : ∀ (s : Shared) (H : Hp) (Ca : Addr) (cl : List (Str × Addr)) (fp : List Addr), JE (X.blk s H scope (compEnvC scope cl Ca X.env) fp) elt q2 (ev C ie)
theorem lc_turns {C : CallF} {t : Tgt} {cs : List IE} {ie : IE} {vs : List Nat} {H0 : Hp} {J : L2.It} {G1 H1 : Hp} {σ : L2.St} {env0 env2 : En} {xs ds : List PyData} {Pc : Hp → Prop} {Q : VK} (hvs : tgs t = vs) (R0 : Rel X.K H0 G1 H1 σ env0)
    (wk : ∀ (G2 H2 : Hp) (i : Nat), Same G1 G2 → Same G2 H2 → Pc H2 → (xs.length ≤ i → J.stop i H2) ∧ ∀ d, xs[i]? = some d → J.go i H2 ∧ ∀ v H3, J.yld i H2 v H3 → ∃ G3, VNew X.K G2 H2 G3 H3 d false v)
    (hP : ∀ G3 H3 env3, StB X.K H0 G1 H1 (wipe σ vs) (wipeE env0 vs) G3 H3 (wipe σ vs) env3 → Pc H3) (ec : compL t vs (evCs C cs) (ev C ie) xs [] (wipeE env0 vs) = some (ds, env2))
    (fin : ∀ D G3 H3 acc, H1 D = none → StB X.K H0 G1 H1 (wipe σ vs) (wipeE env0 vs) G3 H3 (wipe σ vs) env2 → G3 D = none → ¬ MutA (wipe σ vs) env2 D → H3 D = some (.lst acc) → acc.length ≤ sizeLine → PRs X.K G3 ds acc → Q (.ref D) H3) :
    ∀ D, H1 D = none → ∃ W : Nat → Nat → Hp → Prop, (∃ m, W 0 m (upd H1 D (.lst []))) ∧ ∀ i m H, W i m H → (J.stop i H ∧ Q (.ref D) H) ∨ (J.go i H ∧ ∃ Nx : Hp → Prop, (∀ H', Nx H' → ∃ m', m' < m ∧ W (i + 1) m' H') ∧ ∀ x H', J.yld i H x H' →
      gT X.K H0 vs (bind t) x (wipe σ vs) H' fun σ2 H2 => wipe σ2 vs = wipe σ vs ∧ (fun σ H Q => ∃ G env r, Rel X.K H0 G H σ env ∧ evCs C cs env = some r ∧ ∀ H' G', SteE X.K H0 q1 G H σ env G' H' r.2 → Q r.1 H') σ2 H2 fun b H3 =>
        if b = true then tF X.K H0 q2 (keptF (ev C ie)) σ2 H3 fun y H4 => ∃ acc, H4 D = some (.lst acc) ∧ acc.length < sizeLine ∧ Nx (upd H4 D (.lst (acc ++ [y]))) else Nx H3) := fun D nD => by
  have nG1 : G1 D = none := R0.le.free nD
  have mD : ¬ MutA (wipe σ vs) (wipeE env0 vs) D := fun m => R0.mutNe (mutA_wipe m) nD
  have B0 : StB X.K H0 G1 H1 (wipe σ vs) (wipeE env0 vs) G1 (upd H1 D (.lst [])) (wipe σ vs) (wipeE env0 vs) := ⟨Ste.newO R0.wiped nD, fun _ h => h⟩
  refine ⟨fun i m H3 => m = xs.length - i ∧ i ≤ xs.length ∧ ∃ G3 env3 accD acc, StB X.K H0 G1 H1 (wipe σ vs) (wipeE env0 vs) G3 H3 (wipe σ vs) env3 ∧ G3 D = none ∧ ¬ MutA (wipe σ vs) env3 D ∧ H3 D = some (.lst acc) ∧ acc.length ≤ sizeLine ∧
      PRs X.K G3 accD acc ∧ compL t vs (evCs C cs) (ev C ie) (xs.drop i) accD env3 = some (ds, env2), ⟨_, rfl, Nat.zero_le _, G1, _, [], [], B0, nG1, mD, upd_same, Nat.zero_le _, .nil, ec⟩, ?_⟩
  rintro i m H3 ⟨rfl, hi, G3, env3, accD, acc, S, nG3, mD3, hD, hz, hr, e1⟩
  have sg : Same G1 G3 := S.le
  have pc := hP _ _ _ S
  cases hd : xs.drop i with
  | nil =>
    rw [hd] at e1
    simp only [compL] at e1
    cases e1
    exact .inl ⟨(wk G3 H3 i sg S.rel.le pc).1 (drop_nil hd), fin D G3 H3 acc nD S nG3 mD3 hD hz hr⟩
  | cons x l =>
    rw [hd] at e1
    obtain ⟨hx, hl⟩ := drop_get hd
    have hlt : i < xs.length := (List.getElem?_eq_some_iff.mp hx).1
    obtain ⟨go, yl⟩ := (wk G3 H3 i sg S.rel.le pc).2 x hx
    refine .inr ⟨go, fun H' => ∃ G4 env4 accD' acc', StB X.K H0 G1 H1 (wipe σ vs) (wipeE env0 vs) G4 H' (wipe σ vs) env4 ∧ G4 D = none ∧ ¬ MutA (wipe σ vs) env4 D ∧ H' D = some (.lst acc') ∧ acc'.length ≤ sizeLine ∧ PRs X.K G4 accD' acc' ∧
        compL t vs (evCs C cs) (ev C ie) (xs.drop (i + 1)) accD' env4 = some (ds, env2), fun H' h => ⟨xs.length - (i + 1), by omega, rfl, hlt, h⟩, fun v H4 y => ?_⟩
    obtain ⟨G4, n⟩ := yl v H4 y
    obtain ⟨S4, V4⟩ := S.rel.vnew (q := true) n
    obtain ⟨c1, c2, c3⟩ := S4.b.cell nG3 hD mD3
    have T4 := S.trans S4.b
    simp only [compL] at e1
    split at e1
    · cases e1
    · rename_i env5 eb
      refine ⟨G4, env3, x, env5, T4.rel, V4.1 rfl, eb, fun σ5 S5 => ?_⟩
      obtain ⟨d1, d2, d3⟩ := S5.b.cell c1 c2 c3
      have T5 := T4.trans S5.b
      have hw : wipe σ5 vs = wipe σ vs := by
        refine wipe_eq ?_ fun j hj => S5.out j hj
        rw [← T5.rel.len, bind_len eb, T4.rel.len, wipe_length]
      refine ⟨hw, ?_⟩
      split at e1
      · cases e1
      · rename_i env6 e6
        refine ⟨G4, env5, _, T5.rel, e6, fun H6 G6 S6 => ?_⟩
        obtain ⟨f1, f2, f3⟩ := S6.b.cell d1 d2 d3
        have T6 := (T5.trans S6.b).wiped (vs := vs)
        rw [hw] at T6
        refine (if_neg (by simp)).mpr ?_
        exact ⟨G6, _, accD, acc, T6, f1, fun m => f3 (mutA_wipe (hw ▸ m)), f2, hz, hr.mono (S4.le.trans (S5.le.trans S6.le)), by rw [hl]; exact e1⟩
      · rename_i env6 e6
        refine ⟨G4, env5, _, T5.rel, e6, fun H6 G6 S6 => ?_⟩
        obtain ⟨f1, f2, f3⟩ := S6.b.cell d1 d2 d3
        have T6 := T5.trans S6.b
        dsimp only
        rw [if_pos rfl]
        split at e1
        · cases e1
        · rename_i d own env7 e7
          split at e1
          · rename_i hlen
            refine ⟨G6, env6, (d, false, env7), T6.rel, by simp only [keptF, e7], fun u H7 ⟨G7, S7, V7⟩ => ?_⟩
            obtain ⟨g1, g2, g3⟩ := S7.b.cell f1 f2 f3
            have T7 := (T6.trans S7.b).wiped (vs := vs)
            rw [hw] at T7
            have g3' : ¬ MutA (wipe σ vs) (wipeE env7 vs) D := fun m => g3 (mutA_wipe (hw ▸ m))
            have hr' : PRs X.K G7 accD acc := hr.mono (S4.le.trans (S5.le.trans (S6.le.trans S7.le)))
            have ha := hr'.length
            refine ⟨acc, g2, by omega, G7, _, accD ++ [d], acc ++ [u], T7.acc nD g1 g3', g1, g3', upd_same, by rw [List.length_append]; show acc.length + 1 ≤ _; omega, hr'.append (.cons (V7.1 rfl) .nil), by rw [hl]; exact e1⟩
          · cases e1
theorem cell_hid {K : PySem.W.Frag} {H0 G H G3 H3 : Hp} {σ : L2.St} {env env3 : En} {i : Nat} {d : PyData} {f : Fl} {a : Addr} {vs : List Nat} {o : HO} (hd : Hid K H0 G H σ env i d f a) (ho : H a = some o)
    (S : StB K H0 G H (wipe σ vs) (wipeE (env.set i none) vs) G3 H3 (wipe σ vs) env3) : H3 a = some o :=
  (S.cell hd.cell.1 ho fun m => hd.rel.hidM hd.lk hd.np hd.at_ (mutA_wipe m)).2.1
theorem lc_st {C : CallF} {t : Tgt} {ii : It} {cs : List IE} {ie : IE} {vs : List Nat} {H0 : Hp} (hv : vs = tgs t) {σ : L2.St} {H : Hp} {Q : VK} (h : tF X.K H0 false (ev C (.cmpr ie t ii cs)) σ H Q) :
    tLc (tI3 X.K H0 q (evIt C ii) (hidOf ii) (hid2Of ii)) (gT X.K H0 (tgs t) (bind t)) (fun σ H Q => ∃ G env r, Rel X.K H0 G H σ env ∧ evCs C cs env = some r ∧ ∀ H' G', SteE X.K H0 q1 G H σ env G' H' r.2 → Q r.1 H') (tF X.K H0 q2 (keptF (ev C ie))) vs σ H Q := by
  subst hv
  obtain ⟨G, env, r, R, e, qq⟩ := h
  have h0 : ∀ {D : Addr}, H D = none → H0 D = none := fun {D} nD => by
    cases e : H0 D with
    | none => rfl
    | some o => exact absurd nD (R.dom D (by rw [e]; exact fun z => nomatch z))
  simp only [ev] at e
  split at e
  · rename_i i d f xs hh
    split at e
    · cases e
    · rename_i hn
      split at e
      · rename_i ds env2 ec
        cases e
        refine .inr (.inl ⟨G, env, i, d, f, xs, R, hh, fun J a hd ed ej => ?_⟩)
        subst ej
        obtain ⟨nG, c⟩ := hd.cell
        have c' := c
        rw [ed] at c'
        obtain ⟨ws, hv, hz, hr⟩ := c'
        refine lc_turns (Pc := fun H2 => H2 a = some (.lst ws)) rfl hd.rel.hide (wk_hid hr) (fun G3 H3 env3 S => cell_hid hd hv S) ec fun D G3 H3 acc nD S nG3 mD3 hD hz' hr' => ?_
        have S1 := hd.backE (StB.out (SteE.refl (q := true) hd.rel.hide) S)
        refine qq _ H3 ⟨G3, S1, fun z => (nomatch z), fun _ => ⟨D, rfl, nG3, ⟨acc, hD, hz', hr'⟩, h0 nD, .inl nD, fun ⟨j, x, g, k1, k2, k3⟩ => ?_⟩⟩
        by_cases z : i = j
        · subst z
          rw [hd.at_] at k3
          cases k3
          rw [hv] at nD
          cases nD
        · dsimp only at k1
          rw [look_set_ne z] at k1
          exact mD3 (mutA_unset ⟨j, x, g, k1, k2, k3⟩)
      · cases e
  · rename_i hh
    split at e
    · rename_i i d f xs j d' f' ys hh2
      split at e
      · cases e
      · rename_i hn
        split at e
        · rename_i ds env2 ec
          cases e
          refine .inr (.inr ⟨G, env, i, j, d, f, xs, d', f', ys, R, hh, hh2, fun J a b vs ws hd hd' hv hv' wk => ?_⟩)
          have cA : ∀ {G3 H3 : Hp} {env3 : En}, StB X.K H0 G H (wipe σ (tgs t)) (wipeE ((env.set i none).set j none) (tgs t)) G3 H3 (wipe σ (tgs t)) env3 → H3 a = some (.lst vs) := fun S =>
            (S.cell hd.cell.1 hv fun m => hd.rel.hidM hd.lk hd.np hd.at_ (mut_off (mutA_wipe m))).2.1
          refine lc_turns (Pc := fun H2 => H2 a = some (.lst vs) ∧ H2 b = some (.lst ws)) rfl hd'.rel.hide (fun G2 H2 n s t p => wk G2 H2 n s t p.1 p.2) (fun G3 H3 env3 S => ⟨cA S, cell_hid hd' hv' S⟩) ec fun D G3 H3 acc nD S nG3 mD3 hD hz' hr' => ?_
          have S1 := hd.backE (hd'.backE (StB.out (SteE.refl (q := true) hd'.rel.hide) S))
          refine qq _ H3 ⟨G3, S1, fun z => (nomatch z), fun _ => ⟨D, rfl, nG3, ⟨acc, hD, hz', hr'⟩, h0 nD, .inl nD, fun ⟨k, x, g, k1, k2, k3⟩ => ?_⟩⟩
          by_cases z : i = k
          · subst z
            rw [hd.at_] at k3
            cases k3
            rw [hv] at nD
            cases nD
          · dsimp only at k1
            rw [look_set_ne z] at k1
            by_cases z2 : j = k
            · subst z2
              rw [hd'.at_] at k3
              cases k3
              rw [hv'] at nD
              cases nD
            · rw [look_set_ne z2] at k1
              exact mD3 (mutA_unset ⟨k, x, g, k1, k2, k3⟩)
        · cases e
    · rename_i hh2
      split at e
      · rename_i xs env0 ei
        split at e
        · rename_i ds env2 ec
          cases e
          refine .inl ⟨G, env, _, R, hh, hh2, ei, fun J H1 G1 S0 wk => ?_⟩
          refine lc_turns (Pc := fun _ => True) rfl S0.rel (fun G2 H2 i s t _ => wk G2 H2 i s t) (fun _ _ _ _ => True.intro) ec fun D G3 H3 acc nD S nG3 mD3 hD hz hr => ?_
          have nH := S0.un nD
          exact qq _ H3 ⟨G3, StB.out S0 S, fun z => (nomatch z), fun _ => ⟨D, rfl, nG3, ⟨acc, hD, hz, hr⟩, h0 nH, .inl nH, fun m => mD3 (mutA_unset m)⟩⟩
        · cases e
      · cases e
theorem je_lc {C : CallF} {t : Tgt} {ii : It} {cs : List IE} {ie : IE} {scope : Scope} {own : List (Str × Nat)} (hc : X.calm = true) (hN : X.N.Nodup) (hi : JI3 X tg it q ii C) (ok : BlkOk X.N X.env.scope scope own) (ho : own.map (·.2) = tgs t)
    (b : BlkJ X C tg ifs elt scope t cs ie q1 q2) (hs : ∀ x, foldedSetIterable it X.env x = pure x) : JE X (.ListComp elt [⟨tg, it, ifs, 0⟩] scope pos) false (ev C (.cmpr ie t ii cs)) := fun H0 =>
  PE.weak (pe_lc hc hN (hi H0) ok (fun s H Ca cl fp => b.g s H Ca cl fp H0) (fun s H Ca cl fp => b.c s H Ca cl fp H0) (fun s H Ca cl fp => (b.e s H Ca cl fp).kept H0) hs) fun σ H Q h => lc_st ho h
theorem js_lc {C : CallF} {t : Tgt} {ii : It} {cs : List IE} {ie : IE} {scope : Scope} {own : List (Str × Nat)} {i : Nat} {y : Str} {py spos : Pos} (hc : X.calm = true) (hN : X.N.Nodup) (hy : X.N[i]? = some y) (hyl : X.env.scope.names.lookup y = some .local)
    (hsw : swapsWith (.ListComp elt [⟨tg, it, ifs, 0⟩] scope pos) (some (.Name y py)) spos.line X.env = pure true) (hi : JI3 X tg it q ii C) (ok : BlkOk X.N X.env.scope scope own) (ho : own.map (·.2) = tgs t)
    (b : BlkJ X C tg ifs elt scope t cs ie q1 q2) (hs : ∀ x, foldedSetIterable it X.env x = pure x) : JS X (.Assign [.Name y py] (.ListComp elt [⟨tg, it, ifs, 0⟩] scope pos) spos) [i] (ex C (.asg (.nm i) (.cmpr ie t ii cs))) := fun H0 =>
  PS.weak (ps_setLc hc hN hy hyl hsw (hi H0) ok (fun s H Ca cl fp => b.g s H Ca cl fp H0) (fun s H Ca cl fp => b.c s H Ca cl fp H0) (fun s H Ca cl fp => (b.e s H Ca cl fp).kept H0) hs) fun D σ H ⟨G, env, r, R, e, qq⟩ => by
  refine lc_st (q1 := q1) (q2 := q2) (q := q) (cs := cs) (ie := ie) (C := C) ho ?_
  simp only [ex] at e
  split at e
  · rename_i d own env1 ef
    cases e
    exact ⟨G, env, _, R, ef, fun v H' ⟨G', S, V⟩ => qq _ _ _ (StS.store S V)⟩
  · cases e
end
end VI
set_option maxRecDepth 100000
set_option maxHeartbeats 4000000
/-! VI: enumerate over a tuple. -/
namespace VI
open PySem PySem.Spec PyProof.Rows L2
theorem new_enum1 {vv : Value} {ob : Obj} {HH : Heap → Prop} (B : Begins vv ob HH) :
    Meets (Builtin.«enumerate.__new__» ⟨[.type "enumerate", vv], []⟩) (fun _ R st => HH st.heap ∧
      R (.ok (.ret (.ref (st.heap.push ob).objs.size))) { st with heap := (st.heap.push ob).push { cls := .type "enumerate", data := .fields #[.none, .bool false, .ref st.heap.objs.size, rawInt 0, .none, .none] } }) :=
  .of_wp fun pr wo Ar Rr sh hh => by
    obtain ⟨hp, ge, de, tk, os⟩ := sh
    obtain ⟨h1, hR⟩ := hh
    have hsb := sub_enumerate
    have itr : ∀ {Ar' : Around} {Ex Qx : Value → Shared → Prop}, Qx (.ref hp.objs.size) ⟨hp.push ob, ge, de, tk, os⟩ → wpAny (model pr wo) Ar' (pyIter vv) Qx Ex ⟨hp, ge, de, tk, os⟩ :=
      fun qx => B.iter pr wo _ _ ⟨hp, ge, de, tk, os⟩ _ h1 qx
    wp_walk using itr
    refine wpAny_stack_any fun sk => wpAny_pure ?_
    split
    · rename_i cc _ _ _ _ _
      cases (cc == Value.type "enumerate")
      · wp_walk using itr
        exact ⟨_, rfl, hR⟩
      · wp_walk using itr
        exact ⟨_, rfl, hR⟩
    · wp_walk using itr
      exact ⟨_, rfl, hR⟩
theorem enum_new1 {pr : Program} {wo : World} {Ar : Around} {Ex : Value → Shared → Prop} {sh : Shared} {vv : Value} {ob : Obj} {HH : Heap → Prop} {Qx : Value → Shared → Prop} (B : Begins vv ob HH) (h1 : HH sh.heap)
    (hQ : ∀ hn, IsEnum hn (sh.heap.objs.size + 1) sh.heap.objs.size 0 .none → hn.get? sh.heap.objs.size = some ob → (∀ b u, sh.heap.get? b = some u → hn.get? b = some u) → Qx (.ref (sh.heap.objs.size + 1)) { sh with heap := hn }) :
    wpAny (model pr wo) Ar (PySem.call (.type "enumerate") [vv]) Qx Ex sh := by
  refine callType_new F.called_enumerate (by decide) (F.typeCall_enumerate_1 _) (F.newCall_enumerate_1 _) (fun oj => F.args_object_init_2 oj _) F.entry_enumerate_new (new_enum1 B) ⟨h1, ?_⟩
  have sz : (sh.heap.push ob).objs.size = sh.heap.objs.size + 1 := Heap.size_push ..
  show _ ∧ _
  rw [sz]
  have ie : IsEnum ((sh.heap.push ob).push { cls := .type "enumerate", data := .fields #[.none, .bool false, .ref sh.heap.objs.size, rawInt 0, .none, .none] }) (sh.heap.objs.size + 1) sh.heap.objs.size 0 .none := by
    have z := Heap.get?_push_size (sh.heap.push ob) (o := { cls := .type "enumerate", data := .fields #[.none, .bool false, .ref sh.heap.objs.size, rawInt 0, .none, .none] }) rfl
    rw [sz] at z
    exact z
  exact ⟨⟨_, ie, rfl⟩, hQ _ ie (Heap.get?_push_of_some _ (Heap.get?_push_size _ B.free)) fun b u z => Heap.get?_push_of_some _ (Heap.get?_push_of_some _ z)⟩
/-- the tuple at a, each item in a new pair -/
def IteT (K : PySem.W.Frag) (a : Addr) : L2.It :=
  ⟨fun i H => ∃ (xs : List V) (x : V), SqT K H a xs ∧ xs[i]? = some x, fun i H v H' => ∃ T x, v = .ref T ∧ H T = none ∧ H' = upd H T (.tup [.int (i : Nat), x]) ∧ ∀ xs, SqT K H a xs → xs[i]? = some x, fun i H => ∃ xs : List V, SqT K H a xs ∧ xs.length ≤ i⟩
theorem turn_enumT {P : Program} {w : World} {K : PySem.W.Frag} {elts : List Expr} {kk : Nat} {tpos : Pos} (a e it : Addr) :
    Turn P w K (.Tuple elts kk tpos) (IteT K a) [e, it] e (fun i h => (∃ old, IsEnum h e it ((i : Nat) : Int) old) ∧ h.IsTupleIter it a i ∧ e ≠ it ∧ a ≠ it ∧ e ≠ a) where
  mem := by simp
  obj := fun i h st b hb => by
    obtain ⟨⟨ol, he⟩, ⟨o, ho, hc, hd⟩, _⟩ := st
    have or2 : b = e ∨ b = it := by simpa using hb
    rcases or2 with z | z
    · subst z; exact ⟨_, he, fun v q => nomatch q⟩
    · subst z; exact ⟨o, ho, fun v q => by rw [hd] at q; cases q⟩
  keep := fun i h h' st k => by
    obtain ⟨⟨ol, he⟩, hi, n1, n2, n3⟩ := st
    exact ⟨⟨ol, k e (by simp) _ he⟩, hi.at fun o q => k it (by simp) o q, n1, n2, n3⟩
  item := by
    intro X hP hw hK hc i pins s σ H E I hf st hg
    subst hP hw hK
    obtain ⟨⟨ol, he⟩, hit, n1, n2, n3⟩ := st
    obtain ⟨xs, x, hq, hx⟩ := hg
    obtain ⟨its, rv, pp, hz⟩ := I.tuple hq
    obtain ⟨u, hu, ru⟩ := rv.get hx
    have le : e < s.heap.objs.size := Heap.lt_size he
    have li : it < s.heap.objs.size := by obtain ⟨_, q, _⟩ := hit; exact Heap.lt_size q
    have hil : i < its.length := (List.getElem?_eq_some_iff.mp hu).1
    have hA : X.A.in1.handled = none := I.ok.hd hc
    have D := Draws.tuple (prog := X.prog) (w := X.w) (A := X.A.in1) hA it a n2 its.toArray
    refine wpAny_pyNext_enum_itemD D he ⟨hit, pp⟩ (by simpa using hil) n1 (by simp; exact ⟨n1, n3⟩) fun x2 h2 tk hp2 ho2 hs2 hT2 hz2 hk2 => ?_
    have ex : x2 = u := by
      have hp3 : its[i]? = some x2 := by simpa using hp2
      rw [hu] at hp3
      cases hp3
      rfl
    subst ex
    refine ⟨_, rfl, wpAny_letOwnedTupleGo_enum (s := { s with heap := h2, toks := tk + 1 }) ho2 fun h3 he3 sb => ?_⟩
    have hT3 : h3.get? s.heap.objs.size = some { cls := .type "tuple", data := .seq #[.int i tk, x2] } := (sb.2 _ (Nat.ne_of_gt le)).trans hT2
    have nw : ObjOk X.prog X.w (upd H s.heap.objs.size (.tup [.int (i : Nat), x])) h3 s.heap.objs.size (.tup [.int (i : Nat), x]) :=
      ⟨by show 2 ≤ sizeLine; decide, [.int i tk, x2], .cons ⟨_, rfl⟩ (.cons ru .nil), ⟨_, hT3, rfl, _, rfl⟩⟩
    have J : Inv X pins σ (upd H s.heap.objs.size (.tup [.int (i : Nat), x])) { s with heap := h3, toks := tk + 1 } :=
      I.turnedNew (ch := [e, it]) (fun b ob hb q => (sb.2 b (fun z => hb (by simp [z]))).trans (hk2 b ob (fun z => hb (by simp [z])) (fun z => hb (by simp [z])) q)) hf (Nat.le_refl _) nw
    refine ⟨.ref s.heap.objs.size, _, J, rfl, ⟨_, x, rfl, I.hok.fresh (Nat.le_refl _), rfl, fun ys hy => by rw [I.tuple_inj hy hq]; exact hx⟩, ⟨⟨x2, ?_⟩, hs2.1.at fun o q => (sb.2 it (Ne.symm n1)).trans q, n1, n2, n3⟩, fun b hb => ?_⟩
    · have e1 : ((i + 1 : Nat) : Int) = (i : Int) + 1 := by omega
      rw [e1]
      exact he3
    · have lb : b < s.heap.objs.size := by
        have or2 : b = e ∨ b = it := by simpa using hb
        rcases or2 with z | z
        · subst z; exact le
        · subst z; exact li
      rw [upd_ne (Nat.ne_of_lt lb)]
      exact (hf b hb).1
  done := by
    intro X hP hw hK hc i pins s σ H E I hf st hg
    subst hP hw hK
    obtain ⟨⟨ol, he⟩, hit, n1, n2, n3⟩ := st
    obtain ⟨xs, hq, hx⟩ := hg
    obtain ⟨its, rv, pp, hz⟩ := I.tuple hq
    obtain ⟨f0, f1, f2, f3, f4, f5⟩ := hf it (by simp)
    have hl := rv.length
    have hA : X.A.in1.handled = none := I.ok.hd hc
    have D : Draws X.prog X.w X.A.in1 it [it, a] i (fun _ _ => True) (fun j h => j = i ∧ h.IsTupleIter it a j ∧ h.IsTuple a its.toArray) :=
      { live := fun _ _ st => let ⟨o, ho, _⟩ := st.2.1; ⟨o, ho⟩
        frame := fun _ _ _ st hk => ⟨st.1, st.2.1.at fun o e => hk it (by simp) o e, st.2.2.at fun o e => hk a (by simp) o e⟩
        item := fun j s Q E hj st _ => absurd st.1 (Nat.ne_of_lt hj)
        done := fun s Q E st hE => wpAny_nextOf_tuple_end hA st.2.1 st.2.2 (by simp; omega) hE }
    exact wpAny_pyNext_enum_endD D he ⟨rfl, hit, pp⟩ fun h' eb => ⟨rfl, I.turned (t' := s.toks) (fun b o hb q => eb b o hb q) f0 f1 f3 f4 f5⟩
  self := fun A i s Q E st h => by
    obtain ⟨⟨_, he⟩, _⟩ := st
    exact wpAny_pyIter_enum he h
def iEnumT (K : PySem.W.Frag) (ta : TA) : TI := fun σ H R => ta σ H fun vs H1 => ∃ a xs, vs = [.ref a] ∧ SqT K H1 a xs ∧ R (IteT K a) H1
theorem pi_enumT {X : Cx} {e : Expr} {ta : TA} {p pos tpos : Pos} {elts : List Expr} {kk : Nat} (hg : Gl X "enumerate") (hm : X.mg "enumerate" = none) (ha : PA X [e] ta) (hs : starEach [e] X.env = [(false, eval e X.env)]) :
    PI X (.Tuple elts kk tpos) (.Call (.Name "enumerate" p) [e] [] pos) (iEnumT X.K ta) := by
  refine ⟨fun pins s σ H R I h => ?_⟩
  refine Call_ (ld_blt I hg hm boot_enumerate (PyProof.Rows.callWith_type1 (thn (ha.run pos pins s σ H _ I h) fun us s1 ⟨vs, H1, I1, r1, q1⟩ => ?_) hs rfl))
  obtain ⟨a, xs, rfl, hq, q⟩ := q1
  cases r1 with
  | cons r rr =>
    cases rr
    cases r
    obtain ⟨its, rv, pp, hz⟩ := I1.tuple hq
    have la : a < s1.heap.objs.size := by obtain ⟨_, z, _⟩ := pp; exact Heap.lt_size z
    refine enum_new1 (begins_tuple a its.toArray) pp fun hn ie hi hk => wpAny_pyIter_enum ie ?_
    have J : Inv X pins σ H1 { s1 with heap := hn } := I1.kept (t' := s1.toks) hk
    refine ⟨s1.heap.objs.size + 1, [s1.heap.objs.size + 1, s1.heap.objs.size], _, _, H1, rfl, J, turn_enumT a (s1.heap.objs.size + 1) s1.heap.objs.size, ⟨⟨.none, ie⟩, ⟨_, hi, rfl, rfl⟩, Nat.succ_ne_self _, Nat.ne_of_lt la, Nat.ne_of_gt (Nat.lt_succ_of_lt la)⟩, fun b hb => ?_, q⟩
    have or2 : b = s1.heap.objs.size + 1 ∨ b = s1.heap.objs.size := by simpa using hb
    have ge : s1.heap.objs.size ≤ b := by
      rcases or2 with z | z
      · rw [z]; exact Nat.le_succ _
      · rw [z]; exact Nat.le_refl _
    exact I1.fpOk ge (I1.hok.fresh ge)
end VI
set_option maxRecDepth 100000
set_option maxHeartbeats 4000000
/-! VI: what loops go over. -/
namespace VI
open PySem PySem.Spec PyProof.Rows L2
theorem PI.weak {X : Cx} {tg it : Expr} {t t' : TI} (h : PI X tg it t) (w : ∀ σ H R, t' σ H R → t σ H R) : PI X tg it t' := ⟨fun pins s σ H R I q => h.run pins s σ H R I (w σ H R q)⟩
theorem PI.or {X : Cx} {tg it : Expr} {t t' : TI} (h : PI X tg it t) (h' : PI X tg it t') : PI X tg it (fun σ H R => t σ H R ∨ t' σ H R) := ⟨fun pins s σ H R I q => q.elim (h.run pins s σ H R I) (h'.run pins s σ H R I)⟩
section
variable {K : PySem.W.Frag} {G H : Hp}
theorem wk_list {a : Addr} {vs : List V} {ds : List PyData} (h : SqL K G a vs) (r : PRs K G ds vs) : WalkS K (Itl K a) G ds := fun G2 H2 i s t => by
  have q := t.seq (s.seq h)
  have hl := r.length
  refine ⟨fun z => ⟨vs, q, by omega⟩, fun d hd => ?_⟩
  obtain ⟨v, hv, pv⟩ := r.get hd
  refine ⟨⟨vs, v, q, hv⟩, fun u H3 ⟨e, y⟩ => ?_⟩
  subst e
  have := y vs q
  rw [hv] at this
  cases this
  exact ⟨G2, vn_val t (pv.mono s)⟩
theorem wk_tup {a : Addr} {vs : List V} {ds : List PyData} (h : SqT K G a vs) (r : PRs K G ds vs) : WalkS K (Itt K a) G ds := fun G2 H2 i s t => by
  have q := same_sqT t (same_sqT s h)
  have hl := r.length
  refine ⟨fun z => ⟨vs, q, by omega⟩, fun d hd => ?_⟩
  obtain ⟨v, hv, pv⟩ := r.get hd
  refine ⟨⟨vs, v, q, hv⟩, fun u H3 ⟨e, y⟩ => ?_⟩
  subst e
  have := y vs q
  rw [hv] at this
  cases this
  exact ⟨G2, vn_val t (pv.mono s)⟩
theorem rngD_get {lo hi : Int} {i : Nat} : (rngD lo hi)[i]? = if i < (hi - lo).toNat then some (.int (lo + (i : Nat))) else none := by
  unfold rngD
  rw [List.getElem?_map]
  by_cases h : i < (hi - lo).toNat
  · rw [List.getElem?_range h, if_pos h]; rfl
  · rw [if_neg h, List.getElem?_eq_none (by simpa using h)]; rfl
theorem rngD_len {lo hi : Int} : (rngD lo hi).length = (hi - lo).toNat := by simp [rngD]
theorem wk_range {lo hi : Int} : WalkS K (Itr lo (hi - lo).toNat) G (rngD lo hi) := fun G2 H2 i s t => by
  refine ⟨fun z => by rw [rngD_len] at z; exact z, fun d hd => ?_⟩
  rw [rngD_get] at hd
  split at hd
  · rename_i h
    cases hd
    refine ⟨h, fun u H3 ⟨e, y⟩ => ?_⟩
    subst e
    subst y
    exact ⟨G2, vn_val t (.int _)⟩
  · cases hd
theorem enumD_get {xs : List PyData} {i : Nat} {d : PyData} (h : (enumD xs)[i]? = some d) : ∃ x, xs[i]? = some x ∧ d = .tuple [.int (i : Nat), x] := by
  unfold enumD at h
  rw [List.getElem?_mapIdx] at h
  cases e : xs[i]? with
  | none => rw [e] at h; cases h
  | some x =>
    rw [e] at h
    cases h
    exact ⟨x, rfl, rfl⟩
theorem pair_vn {G2 H2 : Hp} {p : Addr} {d e : PyData} {x y : V} (t : Same G2 H2) (n : H2 p = none) (h1 : PR K G2 d x) (h2 : PR K G2 e y) : VNew K G2 H2 (upd G2 p (.tup [x, y])) (upd H2 p (.tup [x, y])) (.tuple [d, e]) false (.ref p) :=
  vn_tup t n (.cons h1 (.cons h2 .nil)) (by show 2 ≤ sizeLine; decide)
theorem wk_enum {a : Addr} {vs : List V} {ds : List PyData} (h : SqL K G a vs) (r : PRs K G ds vs) : WalkS K (Ite K a) G (enumD ds) := fun G2 H2 i s t => by
  have q := t.seq (s.seq h)
  have hl := r.length
  refine ⟨fun z => ⟨vs, q, by simp [enumD] at z; omega⟩, fun d hd => ?_⟩
  obtain ⟨x, hx, rfl⟩ := enumD_get hd
  obtain ⟨v, hv, pv⟩ := r.get hx
  refine ⟨⟨vs, v, q, hv⟩, fun u H3 ⟨T, w, e1, e2, e3, y⟩ => ?_⟩
  subst e1
  subst e3
  have := y vs q
  rw [hv] at this
  cases this
  exact ⟨_, pair_vn t e2 (.int _) (pv.mono s)⟩
theorem wk_enumT {a : Addr} {vs : List V} {ds : List PyData} (h : SqT K G a vs) (r : PRs K G ds vs) : WalkS K (IteT K a) G (enumD ds) := fun G2 H2 i s t => by
  have q := same_sqT t (same_sqT s h)
  have hl := r.length
  refine ⟨fun z => ⟨vs, q, by simp [enumD] at z; omega⟩, fun d hd => ?_⟩
  obtain ⟨x, hx, rfl⟩ := enumD_get hd
  obtain ⟨v, hv, pv⟩ := r.get hx
  refine ⟨⟨vs, v, q, hv⟩, fun u H3 ⟨T, w, e1, e2, e3, y⟩ => ?_⟩
  subst e1
  subst e3
  have := y vs q
  rw [hv] at this
  cases this
  exact ⟨_, pair_vn t e2 (.int _) (pv.mono s)⟩
theorem zipD_get {xs ys : List PyData} {i : Nat} {d : PyData} (h : (zipD xs ys)[i]? = some d) : ∃ x y, xs[i]? = some x ∧ ys[i]? = some y ∧ d = .tuple [x, y] := by
  unfold zipD at h
  rw [List.getElem?_zipWith] at h
  cases e : xs[i]? with
  | none => rw [e] at h; cases h
  | some x =>
    cases e2 : ys[i]? with
    | none => rw [e, e2] at h; cases h
    | some y =>
      rw [e, e2] at h
      cases h
      exact ⟨x, y, rfl, rfl, rfl⟩
theorem wk_zip {a b : Addr} {vs ws : List V} {ds es : List PyData} (h : SqL K G a vs) (r : PRs K G ds vs) (h' : SqL K G b ws) (r' : PRs K G es ws) : WalkS K (Itz K a b) G (zipD ds es) := fun G2 H2 i s t => by
  have q := t.seq (s.seq h)
  have q' := t.seq (s.seq h')
  have hl := r.length
  have hl' := r'.length
  refine ⟨fun z => ⟨vs, ws, q, q', by simp [zipD] at z; omega⟩, fun d hd => ?_⟩
  obtain ⟨x, y, hx, hy, rfl⟩ := zipD_get hd
  obtain ⟨v, hv, pv⟩ := r.get hx
  obtain ⟨w, hw, pw⟩ := r'.get hy
  refine ⟨⟨vs, ws, v, w, q, q', hv, hw⟩, fun u H3 ⟨T, x1, y1, e1, e2, e3, k1, k2⟩ => ?_⟩
  subst e1
  subst e3
  have m1 := k1 vs q
  have m2 := k2 ws q'
  rw [hv] at m1
  rw [hw] at m2
  cases m1
  cases m2
  exact ⟨_, pair_vn t e2 (pv.mono s) (pw.mono s)⟩
theorem wk_zipT {a b : Addr} {vs ws : List V} {ds es : List PyData} (h : SqT K G a vs) (r : PRs K G ds vs) (h' : SqT K G b ws) (r' : PRs K G es ws) : WalkS K (RZ.ItzT K a b) G (zipD ds es) := fun G2 H2 i s t => by
  have q := same_sqT t (same_sqT s h)
  have q' := same_sqT t (same_sqT s h')
  have hl := r.length
  have hl' := r'.length
  refine ⟨fun z => ⟨vs, ws, q, q', by simp [zipD] at z; omega⟩, fun d hd => ?_⟩
  obtain ⟨x, y, hx, hy, rfl⟩ := zipD_get hd
  obtain ⟨v, hv, pv⟩ := r.get hx
  obtain ⟨w, hw, pw⟩ := r'.get hy
  refine ⟨⟨vs, ws, v, w, q, q', hv, hw⟩, fun u H3 ⟨T, x1, y1, e1, e2, e3, k1, k2⟩ => ?_⟩
  subst e1
  subst e3
  have m1 := k1 vs q
  have m2 := k2 ws q'
  rw [hv] at m1
  rw [hw] at m2
  cases m1
  cases m2
  exact ⟨_, pair_vn t e2 (pv.mono s) (pw.mono s)⟩
end
section
variable {X : Cx} {tg it a b : Expr} {q q1 q2 : Bool} {p pos tpos : Pos}
theorem ji_val {C : CallF} {ie : IE} (h : JE X it q (ev C ie)) : JI X tg it q (evIt C (.val ie)) := fun H0 => PI.weak (PI.or (pi_list (h.p H0)) (pi_tup (h.p H0))) fun σ H R ⟨G, env, r, R0, e, qq⟩ => by
  simp only [evIt] at e
  split at e
  · rename_i d own env1 ee
    split at e
    · rename_i xs hx
      cases e
      unfold items at hx
      split at hx
      · cases hx
        refine .inl ⟨G, env, (.list xs, env1), R0, by simp only [pers, ee], fun v H' G' S P => ?_⟩
        cases P with
        | lst hq hz hr => exact ⟨_, rfl, ⟨_, S.rel.le.seq hq⟩, qq _ H' G' S (wk_list hq hr)⟩
      · cases hx
        refine .inr ⟨G, env, (.tuple xs, env1), R0, by simp only [pers, ee], fun v H' G' S P => ?_⟩
        cases P with
        | tup hq hz hr => exact ⟨_, rfl, ⟨_, same_sqT S.rel.le hq⟩, qq _ H' G' S (wk_tup hq hr)⟩
      · cases hx
    · cases e
  · cases e
theorem evs1 {C : CallF} {ia : IE} {env env1 : En} {d : PyData} {own : Bool} (h : ev C ia env = some (d, own, env1)) : evs C [ia] env = some ([d], env1) := by
  simp only [evs, h]
theorem evs2 {C : CallF} {ia ib : IE} {env env1 env2 : En} {d e : PyData} {own own2 : Bool} (h : ev C ia env = some (d, own, env1)) (h2 : ev C ib env1 = some (e, own2, env2)) : evs C [ia, ib] env = some ([d, e], env2) := by
  simp only [evs, h, h2]
theorem PRs.two {K : PySem.W.Frag} {G : Hp} {d e : PyData} {ws : List V} (h : PRs K G [d, e] ws) : ∃ v w, ws = [v, w] ∧ PR K G d v ∧ PR K G e w := by
  cases h with
  | cons r t =>
    obtain ⟨w, rfl, p⟩ := PRs.one t
    exact ⟨_, w, rfl, r, p⟩
theorem int62_ok {i : Int} (h : int62 i = true) : -(2 ^ 62) ≤ i ∧ i < 2 ^ 62 := by
  unfold int62 at h
  simp only [decide_eq_true_eq] at h
  omega
theorem ji_rng1 {C : CallF} {ia : IE} (hg : Gl X "range") (hm : X.mg "range" = none) (hs : NS a) (ha : JPs X [a] q (evs C [ia])) : JI X tg (.Call (.Name "range" p) [a] [] pos) q (evIt C (.rng1 ia)) := fun H0 =>
  PI.weak (pi_range1 hg hm (ha H0) (star_cons hs)) fun σ H R ⟨G, env, r, R0, e, qq⟩ => by
  simp only [evIt] at e
  split at e
  · rename_i n own env1 ee
    split at e
    · rename_i hn
      cases e
      refine ⟨G, env, _, R0, evs1 ee, fun vs H' G' S P => ?_⟩
      obtain ⟨w, rfl, pw⟩ := PRs.one P
      cases pw
      refine ⟨n, rfl, (int62_ok hn).1, (int62_ok hn).2, ?_⟩
      have := qq (Itr 0 (n - 0).toNat) H' G' S wk_range
      rw [Int.sub_zero] at this
      exact this
    · cases e
  · cases e
theorem ji_rng2 {C : CallF} {ia ib : IE} (hg : Gl X "range") (hm : X.mg "range" = none) (hs : NS a) (hs2 : NS b) (ha : JPs X [a, b] q (evs C [ia, ib])) : JI X tg (.Call (.Name "range" p) [a, b] [] pos) q (evIt C (.rng2 ia ib)) := fun H0 =>
  PI.weak (pi_range2 hg hm (ha H0) (by rw [star_cons hs, star_cons hs2]; rfl) (by rw [star_cons hs2]; rfl)) fun σ H R ⟨G, env, r, R0, e, qq⟩ => by
  simp only [evIt] at e
  split at e
  · rename_i m own env1 ee
    split at e
    · rename_i n own2 env2 ee2
      split at e
      · rename_i hn
        cases e
        refine ⟨G, env, _, R0, evs2 ee ee2, fun vs H' G' S P => ?_⟩
        obtain ⟨w, u, rfl, pw, pu⟩ := PRs.two P
        cases pw
        cases pu
        simp only [Bool.and_eq_true] at hn
        exact ⟨m, n, rfl, ⟨(int62_ok hn.1).1, (int62_ok hn.1).2, (int62_ok hn.2).1, (int62_ok hn.2).2⟩, qq _ H' G' S wk_range⟩
      · cases e
    · cases e
  · cases e
theorem ji_enum {C : CallF} {ia : IE} {elts : List Expr} {kk : Nat} (hg : Gl X "enumerate") (hm : X.mg "enumerate" = none) (hs : NS a) (ha : JPs X [a] q (evs C [ia])) : JI X (.Tuple elts kk tpos) (.Call (.Name "enumerate" p) [a] [] pos) q (evIt C (.enum ia)) := fun H0 =>
  PI.weak (PI.or (pi_enum hg hm (ha H0) (star_cons hs)) (pi_enumT hg hm (ha H0) (star_cons hs))) fun σ H R ⟨G, env, r, R0, e, qq⟩ => by
  simp only [evIt] at e
  split at e
  · rename_i d own env1 ee
    split at e
    · rename_i xs hx
      cases e
      cases d <;> simp only [items] at hx <;> try contradiction
      · cases hx
        refine .inl ⟨G, env, _, R0, evs1 ee, fun vs H' G' S P => ?_⟩
        obtain ⟨w, rfl, pw⟩ := PRs.one P
        cases pw with
        | lst hq hz hr => exact ⟨_, _, rfl, S.rel.le.seq hq, qq _ H' G' S (wk_enum hq hr)⟩
      · cases hx
        refine .inr ⟨G, env, _, R0, evs1 ee, fun vs H' G' S P => ?_⟩
        obtain ⟨w, rfl, pw⟩ := PRs.one P
        cases pw with
        | tup hq hz hr => exact ⟨_, _, rfl, same_sqT S.rel.le hq, qq _ H' G' S (wk_enumT hq hr)⟩
    · cases e
  · cases e
theorem ji_zip {C : CallF} {ia ib : IE} {elts : List Expr} {kk : Nat} (hg : Gl X "zip") (hm : X.mg "zip" = none) (hs : NS a) (hs2 : NS b) (ha : JPs X [a, b] q (evs C [ia, ib])) : JI X (.Tuple elts kk tpos) (.Call (.Name "zip" p) [a, b] [] pos) q (evIt C (.zip ia ib)) := fun H0 =>
  PI.weak (RZ.pi_zipA hg hm (ha H0) (star_cons hs) (star_plain fun e he => by simp at he; rw [he]; exact hs2)) fun σ H R ⟨G, env, r, R0, e, qq⟩ => by
  simp only [evIt] at e
  split at e
  · rename_i d own env1 ee
    split at e
    · rename_i d2 own2 env2 ee2
      refine ⟨G, env, _, R0, evs2 ee ee2, fun vs H' G' S P => ?_⟩
      obtain ⟨w, u, rfl, pw, pu⟩ := PRs.two P
      split at e
      · cases e
        cases pw with
        | lst hq hz hr =>
          cases pu with
          | lst hq' hz' hr' => exact ⟨_, _, _, _, rfl, .inl ⟨S.rel.le.seq hq, S.rel.le.seq hq', qq _ H' G' S (wk_zip hq hr hq' hr')⟩⟩
      · cases e
        cases pw with
        | tup hq hz hr =>
          cases pu with
          | tup hq' hz' hr' => exact ⟨_, _, _, _, rfl, .inr ⟨same_sqT S.rel.le hq, same_sqT S.rel.le hq', qq _ H' G' S (wk_zipT hq hr hq' hr')⟩⟩
      · cases e
    · cases e
  · cases e
theorem JI.two {C : CallF} {ii : It} (h : JI X tg it q (evIt C ii)) (hn : ∀ env, hidOf ii env = none) : JI2 X tg it q ii C := fun H0 => PI.weak (h H0) fun σ H R z => by
  rcases z with ⟨G, env, r, R0, _, e, qq⟩ | ⟨G, env, i, d, f, xs, R0, e, _⟩
  · exact ⟨G, env, r, R0, e, qq⟩
  · rw [hn] at e
    cases e
theorem JI2.three {C : CallF} {ii : It} (h : JI2 X tg it q ii C) (hn : ∀ env, hid2Of ii env = none) : JI3 X tg it q ii C := fun H0 => PI.weak (h H0) fun σ H R z => by
  rcases z with ⟨G, env, r, R0, hh, _, e, qq⟩ | z | ⟨G, env, i, j, d, f, xs, d', f', ys, R0, _, e, _⟩
  · exact .inl ⟨G, env, r, R0, hh, e, qq⟩
  · exact .inr z
  · rw [hn] at e
    cases e
theorem wk_zip2 {K : PySem.W.Frag} {G : Hp} {a b : Addr} {vs ws : List V} {ds es : List PyData} (r : PRs K G ds vs) (r' : PRs K G es ws) : ∀ (G2 H2 : Hp) (n : Nat), Same G G2 → Same G2 H2 → H2 a = some (.lst vs) → H2 b = some (.lst ws) →
    ((zipD ds es).length ≤ n → (Itz K a b).stop n H2) ∧ ∀ d, (zipD ds es)[n]? = some d → (Itz K a b).go n H2 ∧ ∀ v H3, (Itz K a b).yld n H2 v H3 → ∃ G3, VNew K G2 H2 G3 H3 d false v := fun G2 H2 n s t h h' => by
  have q : SqL K H2 a vs := .inl (.inl h)
  have q' : SqL K H2 b ws := .inl (.inl h')
  have hl := r.length
  have hl' := r'.length
  refine ⟨fun z => ⟨vs, ws, q, q', by simp [zipD] at z; omega⟩, fun d hd => ?_⟩
  obtain ⟨x, y, hx, hy, rfl⟩ := zipD_get hd
  obtain ⟨v, hv, pv⟩ := r.get hx
  obtain ⟨w, hw, pw⟩ := r'.get hy
  refine ⟨⟨vs, ws, v, w, q, q', hv, hw⟩, fun u H3 ⟨T, x1, y1, e1, e2, e3, k1, k2⟩ => ?_⟩
  subst e1
  subst e3
  have m1 := k1 vs q
  have m2 := k2 ws q'
  rw [hv] at m1
  rw [hw] at m2
  cases m1
  cases m2
  exact ⟨_, pair_vn t e2 (pv.mono s) (pw.mono s)⟩
theorem ji_zipH {C : CallF} {i j : Nat} {x y : Str} {px py : Pos} {elts : List Expr} {kk : Nat} (hg : Gl X "zip") (hm : X.mg "zip" = none) (ha : PE X (.Name x px) (tVar i)) (hb : PE X (.Name y py) (tVar j)) (h : JI X (.Tuple elts kk tpos) (.Call (.Name "zip" p) [.Name x px, .Name y py] [] pos) q (evIt C (.zip (.var i) (.var j)))) :
    JI3 X (.Tuple elts kk tpos) (.Call (.Name "zip" p) [.Name x px, .Name y py] [] pos) q (.zip (.var i) (.var j)) C := fun H0 =>
  PI.weak (PI.or (h H0) (RZ.pi_zipA hg hm (pa_cons ha (pa_cons hb pa_nil (star_cons fun _ _ z => nomatch z)) (star_cons fun _ _ z => nomatch z)) (star_cons fun _ _ z => nomatch z) (star_plain fun e he => by simp at he; rw [he]; exact fun _ _ z => nomatch z))) fun σ H R z => by
  rcases z with ⟨G, env, r, R0, _, _, e, qq⟩ | ⟨G, env, i, d, f, xs, R0, e, _⟩ | ⟨G, env, i', j', d, f, xs, d', f', ys, R0, _, e, qq⟩
  · exact .inl ⟨G, env, r, R0, e, qq⟩
  · simp [hidOf] at e
  · refine .inr ?_
    simp only [hid2Of] at e
    split at e
    · cases e
    · rename_i hij
      split at e
      · rename_i xs1 f1 ys1 f1' hl hl'
        split at e
        · cases e
        · rename_i hp
          cases e
          have hf : f ≠ .p := fun z => hp (.inl z)
          have hf' : f' ≠ .p := fun z => hp (.inr z)
          obtain ⟨v, es, _, o⟩ := R0.slot i _ f hl
          obtain ⟨a, rfl, nG, vs, ea, hz, hr⟩ := o hf
          obtain ⟨w, es', _, o'⟩ := R0.slot j _ f' hl'
          obtain ⟨b, rfl, nG', ws, eb, hz', hr'⟩ := o' hf'
          have hl2 : look (env.set i none) j = some (.list ys, f') := by rw [look_set_ne hij]; exact hl'
          exact ⟨_, es, _, es', a, b, vs, ws, rfl, .inl ⟨.inl (.inl ea), .inl (.inl eb), qq _ a b vs ws ⟨R0, hl, hf, es⟩ ⟨R0.hide, hl2, hf', es'⟩ ea eb (wk_zip2 hr hr')⟩⟩
      · cases e
theorem ji_hid {C : CallF} {i : Nat} {x : Str} (hN : X.N[i]? = some x) (hv : Vis X.env.scope x) (hd : (x == ("__debug__" : Str)) = false) (hc : (x == ("__classdict__" : Str)) = false) : JI2 X tg (.Name x p) true (.hid i) C := fun H0 =>
  PI.weak (PI.or (pi_list (pe_var hN hv hd hc)) (pi_tup (pe_var hN hv hd hc))) fun σ H R z => by
  rcases z with ⟨G, env, r, R0, _, e, qq⟩ | ⟨G, env, j, d, f, xs, R0, e, qq⟩
  · simp only [evIt] at e
    split at e
    · rename_i d hl
      obtain ⟨v, es, pr, _⟩ := R0.slot i d .p hl
      have P := pr rfl
      split at e
      · rename_i xs hx
        cases e
        unfold items at hx
        split at hx
        · cases hx
          cases P with
          | lst hq hz hr => exact .inl ⟨_, es, _, rfl, ⟨_, R0.le.seq hq⟩, qq _ H G (SteE.refl R0) (wk_list hq hr)⟩
        · cases hx
          cases P with
          | tup hq hz hr => exact .inr ⟨_, es, _, rfl, ⟨_, same_sqT R0.le hq⟩, qq _ H G (SteE.refl R0) (wk_tup hq hr)⟩
        · cases hx
      · cases e
    · cases e
  · simp only [hidOf] at e
    split at e
    · cases e
    · rename_i ds fl hf hl
      cases e
      have hf' : f ≠ .p := hf
      obtain ⟨v, es, _, o⟩ := R0.slot i _ f hl
      obtain ⟨a, rfl, nG, vs, ea, hz, hr⟩ := o hf'
      exact .inl ⟨_, es, a, rfl, ⟨vs, .inl (.inl ea)⟩, qq _ a ⟨R0, hl, hf', es⟩ rfl rfl⟩
    · cases e
end
end VI
set_option maxRecDepth 100000
set_option maxHeartbeats 4000000
/-! VI: a def by its body. -/
namespace VI
open PySem PySem.Spec PyProof.Rows L2
section
variable {K : PySem.W.Frag} {H0 G H G1 H1 : Hp} {σ : L2.St} {env env1 : En}
theorem Rel.congr (R : Rel K H0 G H σ env) (hl : env1.length = env.length) (h : ∀ i, look env1 i = look env i) : Rel K H0 G H σ env1 :=
  ⟨R.le, R.dom, hl.trans R.len, fun i d f e => R.slot i d f ((h i).symm.trans e), fun i d a e => R.own i d a ((h i).symm.trans e), fun i j d e f g a h1 n1 h2 n2 => R.dist i j d e f g a ((h i).symm.trans h1) n1 ((h j).symm.trans h2) n2⟩
theorem MutA.congr {a : Addr} (h : ∀ i, look env1 i = look env i) (m : MutA σ env1 a) : MutA σ env a := by
  obtain ⟨i, d, f, h1, h2, h3⟩ := m
  exact ⟨i, d, f, (h i).symm.trans h1, h2, h3⟩
theorem look_app {e2 : En} {i : Nat} : look (env ++ e2) i = if i < env.length then look env i else look e2 (i - env.length) := by
  unfold look
  by_cases h : i < env.length
  · rw [List.getElem?_append_left h, if_pos h]
  · rw [List.getElem?_append_right (by omega), if_neg h]
theorem look_rep {n i : Nat} : look (List.replicate n (none : Slot)) i = none := by
  unfold look
  by_cases h : i < n
  · rw [List.getElem?_replicate, if_pos h]
  · rw [List.getElem?_eq_none (by simpa using h)]
theorem look_pad {n i : Nat} {x : PyData × Fl} (h : look (env ++ List.replicate n none) i = some x) : i < env.length ∧ look env i = some x := by
  rw [look_app] at h
  split at h
  · rename_i k
    exact ⟨k, h⟩
  · rw [look_rep] at h
    cases h
theorem Rel.pad (R : Rel K H0 G H σ env) (n : Nat) : Rel K H0 G H (σ ++ List.replicate n none) (env ++ List.replicate n none) := by
  have gt : ∀ {i : Nat}, i < env.length → (σ ++ List.replicate n none)[i]? = σ[i]? := fun h => List.getElem?_append_left (by rw [← R.len]; exact h)
  refine ⟨R.le, R.dom, by simp [R.len], fun i d f h => ?_, fun i d a h hs => ?_, fun i j d e f g a h1 n1 h2 n2 e1 e2 => ?_⟩
  · obtain ⟨h1, h2⟩ := look_pad h
    rw [gt h1]
    exact R.slot i d f h2
  · obtain ⟨h1, h2⟩ := look_pad h
    rw [gt h1] at hs
    exact R.own i d a h2 hs
  · obtain ⟨k1, k2⟩ := look_pad h1
    obtain ⟨k3, k4⟩ := look_pad h2
    rw [gt k1] at e1
    rw [gt k3] at e2
    exact R.dist i j d e f g a k2 n1 k4 n2 e1 e2
theorem mut_pad (hl : env.length = σ.length) {n : Nat} {a : Addr} (m : MutA (σ ++ List.replicate n none) (env ++ List.replicate n none) a) : MutA σ env a := by
  obtain ⟨i, d, f, h1, h2, h3⟩ := m
  obtain ⟨k1, k2⟩ := look_pad h1
  rw [List.getElem?_append_left (by rw [← hl]; exact k1)] at h3
  exact ⟨i, d, f, k2, h2, h3⟩
/-- the slots of l kept for good -/
def frzL : List Nat → En → En
  | [], env => env
  | i :: l, env => frzL l (match look env i with
    | some (d, _) => env.set i (some (d, .p))
    | none => env)
theorem frzL_len : ∀ {l : List Nat} {env : En}, (frzL l env).length = env.length
  | [], _ => rfl
  | i :: l, env => by
    rw [frzL, frzL_len]
    split <;> simp
theorem look_frzL {j : Nat} : ∀ {l : List Nat} {env : En}, look (frzL l env) j = match look env j with
    | some (d, f) => some (d, if l.contains j then .p else f)
    | none => none
  | [], env => by
    rw [frzL]
    cases look env j with
    | none => rfl
    | some x => simp
  | i :: l, env => by
    rw [frzL, look_frzL]
    by_cases e : i = j
    · subst e
      cases hl : look env i with
      | none => simp only [hl]
      | some x =>
        obtain ⟨d, f⟩ := x
        simp only [look_set_same (look_lt hl)]
        simp
    · have hne : look (match look env i with
        | some (d, _) => env.set i (some (d, .p))
        | none => env) j = look env j := by
        split
        · rw [look_set_ne e]
        · rfl
      rw [hne]
      cases look env j with
      | none => rfl
      | some x =>
        have : (i :: l).contains j = l.contains j := by simp [List.contains_cons]; intro h; exact absurd h.symm e
        simp only [this]
theorem Rel.frzs : ∀ {l : List Nat} {env : En} {G : Hp}, Rel K H0 G H σ env → ∃ G', Ste K H0 G H σ env G' H σ (frzL l env)
  | [], env, G, R => ⟨G, Ste.refl R⟩
  | i :: l, env, G, R => by
    rw [frzL]
    cases hl : look env i with
    | none => exact R.frzs
    | some x =>
      obtain ⟨d, f⟩ := x
      by_cases hf : f = .p
      · subst hf
        have R2 : Rel K H0 G H σ (env.set i (some (d, .p))) := R.congr (by simp) fun j => by
          by_cases e : i = j
          · subst e; rw [look_set_same (look_lt hl), hl]
          · rw [look_set_ne e]
        obtain ⟨G', S⟩ := R2.frzs (l := l)
        refine ⟨G', ⟨S.rel, S.le, fun a h => ?_, fun a o h n => S.frame a o h fun m => n (m.congr fun j => ?_), fun a m => (S.muts a m).imp (fun m => m.congr fun j => ?_) id, S.doms⟩⟩
        · rcases S.grow a h with z | z | z
          · exact .inl z
          · exact .inr (.inl z)
          · refine .inr (.inr (z.congr fun j => ?_))
            by_cases e : i = j
            · subst e; rw [look_set_same (look_lt hl), hl]
            · rw [look_set_ne e]
        all_goals
          by_cases e : i = j
          · subst e; rw [look_set_same (look_lt hl), hl]
          · rw [look_set_ne e]
      · obtain ⟨a, _, G1, S1, _⟩ := R.freeze hl hf
        obtain ⟨G', S⟩ := S1.rel.frzs (l := l)
        exact ⟨G', S1.trans S⟩
end
theorem entry_len {fn : Fn} : ∀ {args : List (PyData × Bool)} {i : Nat}, (entry fn i args).length = args.length
  | [], _ => rfl
  | _ :: r, i => by simp [entry, entry_len]
theorem look_entry {fn : Fn} {j : Nat} : ∀ {args : List (PyData × Bool)} {i : Nat}, look (entry fn i args) j = match args[j]? with
    | some (d, m) => some (d, if m && !fn.asg.contains (i + j) then .b else .p)
    | none => none
  | [], _ => by simp [entry, look]
  | (d, m) :: r, i => by
    cases j with
    | zero => simp [entry, look]
    | succ j =>
      have := look_entry (fn := fn) (j := j) (args := r) (i := i + 1)
      rw [show i + 1 + j = i + (j + 1) by omega] at this
      rw [List.getElem?_cons_succ, ← this]
      simp [entry, look]
theorem flag_get {args : List (PyData × Bool)} {j : Nat} : look (flag args) j = match args[j]? with
    | some (d, m) => some (d, if m then .b else .p)
    | none => none := by
  rw [flag_look]
  cases args[j]? with
  | none => rfl
  | some x => rfl
theorem entry_frz {fn : Fn} {args : List (PyData × Bool)} {j : Nat} : look (entry fn 0 args) j = look (frzL fn.asg (flag args)) j := by
  rw [look_entry, look_frzL, flag_get]
  cases args[j]? with
  | none => rfl
  | some x =>
    obtain ⟨d, m⟩ := x
    simp only [Nat.zero_add]
    cases m <;> cases fn.asg.contains j <;> rfl
theorem finals_len {fn : Fn} {env : En} : ∀ {args : List (PyData × Bool)} {i : Nat}, (finals fn env i args).length = args.length
  | [], _ => rfl
  | _ :: r, i => by simp [finals, finals_len]
theorem finals_get {fn : Fn} {env : En} {j : Nat} {x : PyData} {m' : Bool} : ∀ {args : List (PyData × Bool)} {i : Nat}, okFin fn env i args = true → (finals fn env i args)[j]? = some (x, m') →
    ∃ d m, args[j]? = some (d, m) ∧ ((fn.asg.contains (i + j) = true ∧ x = d ∧ m' = false) ∨ (fn.asg.contains (i + j) = false ∧ m' = false ∧ look env (i + j) = some (x, .p)) ∨ (fn.asg.contains (i + j) = false ∧ m' = true ∧ m = true ∧ ∃ f, f ≠ .p ∧ look env (i + j) = some (x, f)))
  | [], _, _, h => by simp [finals] at h
  | (d, m) :: r, i, ok, h => by
    simp only [okFin, Bool.and_eq_true] at ok
    cases j with
    | zero =>
      simp only [finals, List.getElem?_cons_zero, Option.some.injEq] at h
      refine ⟨d, m, rfl, ?_⟩
      simp only [Nat.add_zero]
      cases hc : fn.asg.contains i with
      | true =>
        rw [hc, if_pos rfl] at h
        cases h
        exact .inl ⟨rfl, rfl, rfl⟩
      | false =>
        rw [hc, if_neg (by simp)] at h
        have o1 := ok.1
        rw [hc, Bool.false_or] at o1
        split at h
        · rename_i d' hl
          cases h
          exact .inr (.inl ⟨rfl, rfl, hl⟩)
        · rename_i d' f hf hl
          cases h
          refine .inr (.inr ⟨rfl, rfl, ?_, f, hf, hl⟩)
          rw [hl] at o1
          split at o1
          · rename_i z; cases z; exact (hf rfl).elim
          · exact o1
          · cases o1
        · rename_i hl
          rw [hl] at o1
          cases o1
    | succ j =>
      rw [finals, List.getElem?_cons_succ] at h
      have := finals_get (i := i + 1) ok.2 h
      rw [show i + 1 + j = i + (j + 1) by omega] at this
      rw [List.getElem?_cons_succ]
      exact this
section
variable {K : PySem.W.Frag} {H G G1 G2 H2 : Hp} {σ2 : L2.St} {env2 : En} {vs : List V}
theorem fn_post {fn : Fn} {args : List (PyData × Bool)} {n : Nat} {d : PyData} {own : Bool} {v : V} (hl : args.length = vs.length) (S0 : Ste K H G H (vs.map some) (flag args) G1 H (vs.map some) (frzL fn.asg (flag args)))
    (S : StS K H G1 H (vs.map some ++ List.replicate n none) (entry fn 0 args ++ List.replicate n none) fn.asg G2 H2 σ2 env2) (V : VS K H (vs.map some ++ List.replicate n none) (entry fn 0 args ++ List.replicate n none) H G2 H2 σ2 env2 d own v) (ok : okFin fn env2 0 args = true) :
    Post K H false (vs.map some) (flag args) G H (d, own, flag (finals fn env2 0 args)) v H2 := by
  have e1 : ∀ j, look (entry fn 0 args) j = look (frzL fn.asg (flag args)) j := fun j => entry_frz
  have le1 : (entry fn 0 args).length = (vs.map some).length := by rw [entry_len, List.length_map, hl]
  -- what may change at the entry may have changed ahead of it
  have m0 : ∀ a, MutA (vs.map some ++ List.replicate n none) (entry fn 0 args ++ List.replicate n none) a → MutA (vs.map some) (flag args) a := fun a m => by
    obtain ⟨i, x, f, h1, h2, h3⟩ := (mut_pad le1 m).congr (env := frzL fn.asg (flag args)) e1 |> id
    rw [look_frzL] at h1
    cases hx : look (flag args) i with
    | none => rw [hx] at h1; cases h1
    | some y0 =>
      obtain ⟨x0, f'⟩ := y0
      rw [hx] at h1
      cases h1
      refine ⟨i, _, f', hx, fun z => h2 ?_, h3⟩
      rw [z]
      cases fn.asg.contains i <;> rfl
  have slot : ∀ j x m', (finals fn env2 0 args)[j]? = some (x, m') → ∃ v, (vs.map some)[j]? = some (some v) ∧ ∃ d0 m, args[j]? = some (d0, m) ∧
      ((fn.asg.contains j = true ∧ m' = false ∧ PR K G2 x v) ∨ (fn.asg.contains j = false ∧ σ2[j]? = some (some v) ∧ ((m' = false ∧ look env2 j = some (x, .p)) ∨ (m' = true ∧ m = true ∧ ∃ f, f ≠ .p ∧ look env2 j = some (x, f))))) := fun j x m' h => by
    obtain ⟨d0, m, h1, h2⟩ := finals_get ok h
    have hj : j < vs.length := by rw [← hl]; exact (List.getElem?_eq_some_iff.mp h1).1
    have hv : (vs.map some)[j]? = some (some vs[j]) := by rw [List.getElem?_map, List.getElem?_eq_getElem hj]; rfl
    have hs : fn.asg.contains j = false → σ2[j]? = some (some vs[j]) := fun hc => by
      rw [S.out j (by simpa using hc), List.getElem?_append_left (by simpa using hj)]
      exact hv
    rw [Nat.zero_add] at h2
    refine ⟨_, hv, d0, m, h1, ?_⟩
    rcases h2 with ⟨c, rfl, rfl⟩ | ⟨c, rfl, h3⟩ | ⟨c, rfl, rfl, f, h3, h4⟩
    · refine .inl ⟨c, rfl, ?_⟩
      have hlk : look (frzL fn.asg (flag args)) j = some (x, .p) := by
        rw [look_frzL, flag_get, h1]
        simp only [c, if_true]
      obtain ⟨w, hw, p, _⟩ := S0.rel.slot j x .p hlk
      rw [hv] at hw
      cases hw
      exact (p rfl).mono S.le
    · exact .inr ⟨c, hs c, .inl ⟨rfl, h3⟩⟩
    · exact .inr ⟨c, hs c, .inr ⟨rfl, rfl, f, h3, h4⟩⟩
  have lk : ∀ j x f, look (flag (finals fn env2 0 args)) j = some (x, f) → ∃ m', (finals fn env2 0 args)[j]? = some (x, m') ∧ f = if m' then .b else .p := fun j x f h => by
    rw [flag_get] at h
    split at h
    · rename_i x' m' hx
      cases h
      exact ⟨m', hx, rfl⟩
    · cases h
  -- what may change behind it
  have m2 : ∀ a, MutA (vs.map some) (flag (finals fn env2 0 args)) a → MutA σ2 env2 a ∧ MutA (vs.map some) (flag args) a := fun a ⟨j, x, f, h1, h2, h3⟩ => by
    obtain ⟨m', h4, rfl⟩ := lk j x f h1
    obtain ⟨w, hw, d0, m, h5, h6⟩ := slot j x m' h4
    rcases h6 with ⟨_, rfl, _⟩ | ⟨c, hs, ⟨rfl, _⟩ | ⟨rfl, rfl, f', hf, hlk⟩⟩
    · exact absurd rfl h2
    · exact absurd rfl h2
    · rw [hw] at h3
      cases h3
      exact ⟨⟨j, x, f', hlk, hf, hs⟩, ⟨j, d0, .b, by rw [flag_get, h5]; rfl, fun z => (nomatch z), hw⟩⟩
  have R : Rel K H G2 H2 (vs.map some) (flag (finals fn env2 0 args)) := by
    refine ⟨S.rel.le, S.rel.dom, by rw [flag_length, finals_len, List.length_map, hl], fun j x f h => ?_, fun j x a h _ => ?_, fun i j x y f g a h1 n1 h2 n2 e1 e2 => ?_⟩
    · obtain ⟨m', h4, rfl⟩ := lk j x f h
      obtain ⟨w, hw, d0, m, h5, h6⟩ := slot j x m' h4
      refine ⟨w, hw, ?_⟩
      rcases h6 with ⟨_, rfl, p⟩ | ⟨c, hs, ⟨rfl, hlk⟩ | ⟨rfl, _, f', hf, hlk⟩⟩
      · exact ⟨fun _ => p, fun z => absurd rfl z⟩
      · obtain ⟨u, hu, p, _⟩ := S.rel.slot j x .p hlk
        rw [hs] at hu
        cases hu
        exact ⟨fun _ => p rfl, fun z => absurd rfl z⟩
      · obtain ⟨u, hu, _, q⟩ := S.rel.slot j x f' hlk
        rw [hs] at hu
        cases hu
        exact ⟨fun z => (nomatch z), fun _ => q hf⟩
    · obtain ⟨m', _, h4⟩ := lk j x .o h
      cases m' <;> cases h4
    · obtain ⟨m1, h3, rfl⟩ := lk i x f h1
      obtain ⟨m3, h4, rfl⟩ := lk j y g h2
      obtain ⟨w, hw, _, _, _, h6⟩ := slot i x m1 h3
      obtain ⟨u, hu, _, _, _, h7⟩ := slot j y m3 h4
      rw [e1] at hw
      rw [e2] at hu
      cases hw
      cases hu
      rcases h6 with ⟨_, rfl, _⟩ | ⟨_, hs, ⟨rfl, _⟩ | ⟨rfl, _, f', hf, hlk⟩⟩
      · exact absurd rfl n1
      · exact absurd rfl n1
      · rcases h7 with ⟨_, rfl, _⟩ | ⟨_, hs', ⟨rfl, _⟩ | ⟨rfl, _, f2, hf2, hlk2⟩⟩
        · exact absurd rfl n2
        · exact absurd rfl n2
        · exact S.rel.dist i j x y f' f2 a hlk hf hlk2 hf2 hs hs'
  refine ⟨G2, ⟨⟨R, S0.le.trans S.le, fun a h => ?_, fun a o h k => S.frame a o h fun m => k (m0 a m), fun a m => .inl (m2 a m).2, S.doms⟩, fun a m => (m2 a m).2, fun z => nomatch z⟩, V.1, fun z => ?_⟩
  · rcases S.grow a h with z | z | z
    · exact S0.grow a z
    · exact .inr (.inl z)
    · exact .inr (.inr (m0 a z))
  · obtain ⟨a, e, n1, c, n0, _, m⟩ := V.2 z
    exact ⟨a, e, n1, c, n0, .inl n0, fun k => m (m2 a k).1⟩
end
end VI
set_option maxRecDepth 100000
set_option maxHeartbeats 4000000
/-! VI: displays of dicts; a def by its body. -/
namespace VI
open PySem PySem.Spec PyProof.Rows L2
/-! ### {k: v, ..} -/
def flatP : List (V × V) → List V
  | [] => []
  | (k, v) :: r => k :: v :: flatP r
def trsOf (K : PySem.W.Frag) (H0 : Hp) (C : CallF) : List IE → List (TE × TE)
  | k :: v :: r => (tP K H0 (quiet k) (fun env => pers (ev C k env)), tP K H0 (quiet v) (fun env => pers (ev C v env))) :: trsOf K H0 C r
  | _ => []
theorem pairs_run {K : PySem.W.Frag} {H0 : Hp} {C : CallF} {σ : L2.St} : ∀ {il : List IE} {n : Nat} {G H : Hp} {env : En} {ds : List PyData} {env' : En} {Q : List (V × V) → Hp → Prop}, il.length = 2 * n → Rel K H0 G H σ env → evs C il env = some (ds, env') →
    (∀ ps H' G', SteE K H0 false G H σ env G' H' env' → PRs K G' ds (flatP ps) → Q ps H') → tPairs (trsOf K H0 C il) σ H Q
  | [], _, G, H, env, ds, env', Q, _, R, e, qq => by
    simp only [evs] at e
    cases e
    exact qq [] H G (SteE.refl R) .nil
  | [_], n, _, _, _, _, _, _, h, _, _, _ => by simp at h; omega
  | k :: v :: r, n, G, H, env, ds, env', Q, h, R, e, qq => by
    simp only [evs] at e
    split at e
    · rename_i dk ok env1 ek
      split at e
      · rename_i l env2 el
        split at el
        · rename_i dv ov env3 ev'
          split at el
          · rename_i l2 env4 el2
            cases el
            cases e
            refine ⟨G, env, (dk, env1), R, by simp only [pers, ek], fun x H1 G1 S1 p1 => ⟨G1, env1, (dv, env3), S1.rel, by simp only [pers, ev'], fun y H2 G2 S2 p2 => ?_⟩⟩
            refine pairs_run (n := n - 1) (by simp at h; omega) S2.rel el2 fun ps H3 G3 S3 p3 => ?_
            exact qq ((x, y) :: ps) H3 G3 ((S1.trans (q := false) S2).trans S3) (.cons ((p1.mono S2.le).mono S3.le) (.cons (p2.mono S3.le) p3))
          · cases el
        · cases el
      · cases e
    · cases e
theorem pair_up {K : PySem.W.Frag} {G : Hp} : ∀ {ps : List (V × V)} {ds : List PyData} {acc r : List (PyData × PyData)} {accV : List (L2.Key × V)}, PRs K G ds (flatP ps) → PRk K G acc accV → pairUp ds acc = some r →
    ∃ kvs : List (L2.Key × V), ps = kvs.map (fun kv => (kV kv.1, kv.2)) ∧ PRk K G r (mergeK accV kvs)
  | [], ds, acc, r, accV, p, pa, e => by
    cases p
    simp only [pairUp] at e
    cases e
    exact ⟨[], rfl, pa⟩
  | (k, v) :: ps, ds, acc, r, accV, p, pa, e => by
    cases p with
    | cons p1 p =>
      cases p with
      | cons p2 p =>
        simp only [pairUp] at e
        split at e
        · rename_i x hx
          obtain ⟨kvs, rfl, h2⟩ := pair_up p (putD_pr p2 pa) e
          have ek : k = kV x := RR.key (H := G) (.inl p1) hx
          subst ek
          exact ⟨(x, v) :: kvs, rfl, h2⟩
        · cases e
section
variable {X : Cx} {pos : Pos}
theorem pps_of {C : CallF} {H0 : Hp} : ∀ {il : List IE} {keys : List (Option Expr)} {vals : List Expr}, il.length = 2 * keys.length → vals.length = keys.length →
    (∀ (i : Nat) k v, keys[i]? = some (some k) → vals[i]? = some v → ∃ ik iv, il[2 * i]? = some ik ∧ il[2 * i + 1]? = some iv ∧ JE X k (quiet ik) (ev C ik) ∧ JE X v (quiet iv) (ev C iv)) → keys.all (·.isSome) = true → PPs X pos keys vals (trsOf X.K H0 C il)
  | [], [], [], _, _, _, _ => pps_nil
  | [], [], _ :: _, _, h, _, _ => by simp at h
  | [], _ :: _, _, h, _, _, _ => by simp at h
  | [_], [], _, h, _, _, _ => by simp at h
  | [_], _ :: _, _, h, _, _, _ => by simp at h; omega
  | _ :: _ :: _, [], _, h, _, _, _ => by simp at h
  | ik :: iv :: r, none :: ks, vs, _, _, _, ha => by simp at ha
  | ik :: iv :: r, some k :: ks, [], _, h, _, _ => by simp at h
  | ik :: iv :: r, some k :: ks, v :: vs, h, h2, hj, ha => by
    obtain ⟨ik', iv', e1, e2, j1, j2⟩ := hj 0 k v rfl rfl
    cases e1
    cases e2
    simp only [trsOf]
    refine pps_cons (j1.p H0) (j2.p H0) (pps_of (by simp at h; omega) (by simpa using h2) (fun i k' v' h3 h4 => ?_) (by simpa using ha))
    obtain ⟨ik2, iv2, e3, e4, j⟩ := hj (i + 1) k' v' (by simpa using h3) (by simpa using h4)
    refine ⟨ik2, iv2, ?_, ?_, j⟩
    · rw [show 2 * (i + 1) = 2 * i + 1 + 1 by omega] at e3
      simpa using e3
    · rw [show 2 * (i + 1) + 1 = 2 * i + 1 + 1 + 1 by omega] at e4
      simpa using e4
theorem je_dct {C : CallF} {il : List IE} {keys : List (Option Expr)} {vals : List Expr} (hil : il.length = 2 * keys.length) (hv : vals.length = keys.length) (h0 : keys ≠ []) (h15 : keys.length ≤ 15) (ha : keys.all (·.isSome) = true)
    (hj : ∀ (i : Nat) k v, keys[i]? = some (some k) → vals[i]? = some v → ∃ ik iv, il[2 * i]? = some ik ∧ il[2 * i + 1]? = some iv ∧ JE X k (quiet ik) (ev C ik) ∧ JE X v (quiet iv) (ev C iv)) :
    JE X (.Dict keys vals pos) false (ev C (.dct il)) := fun H0 => PE.weak (pe_disp (pps_of (H0 := H0) hil hv hj ha) ha hv.symm h0 h15) fun σ H Q ⟨G, env, r, R, e, qq⟩ => by
  intro p np
  simp only [ev] at e
  split at e
  · rename_i ds env1 ee
    split at e
    · rename_i kvs hk
      cases e
      have S0 : SteE X.K H0 false G H σ env G (upd H p (.dK [])) env := ⟨Ste.newO R np, fun _ h => h, fun z => nomatch z⟩
      have nG : G p = none := R.le.free np
      have mp : ¬ MutA σ env p := fun m => R.mutNe m np
      refine pairs_run hil S0.rel ee fun ps H2 G2 S2 pr => ?_
      obtain ⟨c1, c2, c3⟩ := S2.b.cell nG upd_same mp
      obtain ⟨kv, e1, pk⟩ := pair_up pr .nil hk
      have len : ∀ (l : List IE) (env : En) (ds : List PyData) (env' : En), evs C l env = some (ds, env') → ds.length = l.length := fun l => by
        induction l with
        | nil => intro env ds env' h; simp only [evs] at h; cases h; rfl
        | cons a l ih =>
          intro env ds env' h
          simp only [evs] at h
          split at h
          · split at h
            · rename_i hl
              cases h
              simp [ih _ _ _ hl]
            · cases h
          · cases h
      have l1 := len _ _ _ _ ee
      have l2 := pr.length
      have l3 : (flatP ps).length = 2 * ps.length := by
        clear pr e1 l2
        induction ps with
        | nil => rfl
        | cons a l ih =>
          obtain ⟨a, b⟩ := a
          simp only [flatP, List.length_cons, ih]
          omega
      have l4 : ps.length = kv.length := by rw [e1, List.length_map]
      have hz : kv.length ≤ 15 := by omega
      have hm := length_mergeK kv []
      refine ⟨c2, kv, e1, hz, qq _ _ ?_⟩
      have B : StB X.K H0 G H σ env G2 (upd H2 p (.dK (mergeK [] kv))) σ env1 := by
        refine ⟨⟨S2.rel.acc c1 c3, S2.le, fun a h => ?_, fun a o h n => ?_, fun a m => .inl (S2.mutE a m), fun a h => ?_⟩, S2.mutE⟩
        · rcases S2.grow a h with z | z | z
          · exact .inl z
          · exact .inr (.inl (S0.un z))
          · exact .inr (.inr z)
        · have ne : a ≠ p := fun z => by rw [z, np] at h; cases h
          rw [upd_ne ne]
          exact S2.frame a o (by rw [upd_ne ne]; exact h) n
        · by_cases z : a = p
          · rw [z, upd_same]; exact fun z => nomatch z
          · rw [upd_ne z]
            exact S2.doms a (by rw [upd_ne z]; exact h)
      refine ⟨G2, ⟨B.toSte, B.mutE, fun z => nomatch z⟩, fun z => (nomatch z), fun _ => ⟨p, rfl, c1, ⟨_, upd_same, by rw [sizeLine_eq]; simp at hm; omega, pk⟩, ?_, .inl np, c3⟩⟩
      cases z : H0 p with
      | none => rfl
      | some o => exact absurd np (R.dom p (by rw [z]; exact fun z => nomatch z))
    · cases e
  · cases e
end
/-! ### a def -/
theorem fnG_body {P : Program} {w : World} {K : PySem.W.Frag} {mg : Str → Option Value} {base : Heap} {k : Nat} {f : Addr} {name qual : Str} {params : Arguments} {body : List Stmt} {scope : Scope} {dV kV doc pm cdv ct oc : Value} {an od : Option Addr}
    {osl : Array (Option Value)} {N ps : List Str} {C : CallF} {fn : Fn} (lk : K.lookup f = some ⟨oc, od, .func (PySem.W.fnOf name qual params body scope dV kV doc pm an cdv ct), osl⟩) (hcd : PySem.W.codeIn K cdv qual = true) (S : FnScope N ps scope)
    (hnp : fn.np = ps.length) (hns : fn.ns = N.length)
    (hbody : ∀ (A : Around) (outer : List Env) (s : Shared) (H : Hp), Room k (A.deeper (envOfC qual scope s.heap.objs.size f cdv)) → A.guards = some [] → JSs (cxOf CX0 P w K mg base N qual scope f cdv A outer s H E0) body fn.asg (exs C fn.body)) :
    FnG P w K mg base (k + 1) f (PySem.W.fnOf name qual params body scope dV kV doc pm an cdv ct) ps (spVI K ps.length (runFn C fn)) := by
  refine ⟨fun vs H Q E ⟨_, _, _, _, _, h, _⟩ => h, fun A outer s H args us vs Q E hr hg e0 hb r hsp => ?_⟩
  obtain ⟨G, as, d, own, fs, hlv, hla, hlf, R, hF, hQ⟩ := hsp
  have KX : K.In s.heap := e0.mod.kin.keeps fun b o z => (e0.bs b o z).1
  have kinds : ∀ y ∈ ps.zip us, scope.names.lookup y.1 = some .local ∨ (scope.names.lookup y.1 = some .cell ∧ ((cellsFrom (s.heap.objs.size + 1) scope.names []).lookup y.1).isSome = true) := fun y hy => by
    obtain ⟨n, v⟩ := y
    exact (S.par n (List.of_mem_zip hy).1).imp id fun z => ⟨z, PySem.W.cellsFrom_some _ _ _ (.inl z)⟩
  refine codeAny_call_function hr.depth (KX _ _ lk) rfl S.co S.gen rfl (PySem.W.codeRec_of KX hcd) (hb _ _ _ _ (wpAny_newFunctionEnv_cells S.kind kinds fun env he s1 x => ?_))
  subst he
  have lim : s.heap.NoLimit := e0.mod.nolimit.keeps fun b o z => (e0.bs b o z).1
  refine ⟨lim.keeps x.toInCall.keep, codeAny_func ?_⟩
  have I : Inv (cxOf CX0 P w K mg base N qual scope f cdv A outer s H E0) [] (L2.start N vs) H s1 := inv_start S hr.hd e0 hlv r x
  -- what the body is to reach
  have reach : tS K H fn.asg (exs C fn.body) { nx := fun _ H' => Q .non H', rt := Q } (L2.start N vs) H := by
    unfold runFn at hF
    rw [if_pos (by omega)] at hF
    obtain ⟨G1, S0⟩ := R.frzs (l := fn.asg)
    have pad : (List.replicate (fn.ns - fn.np) (none : Slot)) = List.replicate (N.length - vs.length) none := by rw [hnp, hns, hlv]
    rw [pad] at hF
    have R1 : Rel K H G1 H (L2.start N vs) (entry fn 0 as ++ List.replicate (N.length - vs.length) none) := by
      unfold L2.start
      exact (S0.rel.congr (by rw [entry_len, frzL_len, flag_length]) fun i => entry_frz).pad _
    have done : ∀ {d' : PyData} {own' : Bool} {env' : En} {v : V} {σ' : L2.St} {H' G' : Hp}, fin fn as d' own' env' = some (d, own, fs) → StS K H G1 H (L2.start N vs) (entry fn 0 as ++ List.replicate (N.length - vs.length) none) fn.asg G' H' σ' env' →
        VS K H (L2.start N vs) (entry fn 0 as ++ List.replicate (N.length - vs.length) none) H G' H' σ' env' d' own' v → Q v H' := fun {d' own' env' v σ' H' G'} hf S' V' => by
      unfold fin at hf
      split at hf
      · rename_i ok
        cases hf
        exact hQ v H' (fn_post (by omega) S0 S' V' ok)
      · cases hf
    split at hF
    · rename_i d' own' env' he'
      exact ⟨G1, _, _, R1, he', fun v σ' H' G' S' V' => done hF S' V'⟩
    · rename_i env' he'
      exact ⟨G1, _, _, R1, he', fun σ' H' G' S' => done hF S' ⟨fun _ => .non, fun z => nomatch z⟩⟩
    · cases hF
  refine wpAny_mono ((hbody A outer s H (hr.deeper _) hg H).run [] s1 (L2.start N vs) H _ I reach) (fun fl s' hs => ?_) fun e s' hs => hs
  have out : ∀ {σ' : L2.St} {H' : Hp} {v : V} {u : Value}, Inv (cxOf CX0 P w K mg base N qual scope f cdv A outer s H E0) [] σ' H' s' → RelV v u → Q v H' → CE outer P w H s Q u s' :=
    fun {σ' H' v u} J rv q => ⟨v, H', J.os, J.bare, J.base, J.hok, rv, q⟩
  match fl, hs with
  | .ret u, hs =>
    obtain ⟨v, σ', H', J, rv, q⟩ := hs
    exact out J rv q
  | .next, hs =>
    obtain ⟨σ', H', J, q⟩ := hs
    exact out (v := V.non) (u := Value.none) J rfl q
  | .brk, hs =>
    obtain ⟨_, _, _, q⟩ := hs
    exact q.elim
  | .cont, hs =>
    obtain ⟨_, _, _, q⟩ := hs
    exact q.elim
end VI
set_option maxRecDepth 100000
set_option maxHeartbeats 4000000
/-! VI: further rules: dicts without entries, get, index, count, list(range). -/
namespace VI
open PySem PySem.Spec PyProof.Rows L2
section
variable {X : Cx} {C : CallF} {o a b k d e : Expr} {es : List Expr} {il : List IE} {pos p p2 pos2 apos cpos : Pos} {q q1 q2 qk qd : Bool}
theorem je_dct0 : JE X (.Dict [] [] pos) true (fun env => some (.dict [], true, env)) := fun H0 => PE.weak pe_dnewK fun σ H Q ⟨G, env, r, R, e, qq⟩ => by
  intro p np
  cases e
  refine qq _ _ (fin_new (G := G) (G1 := G) (G2 := G) (q := true) (env1 := env) (SteE.refl R) ?_)
  exact ⟨Same.refl _, same_upd np, R.le.trans (same_upd np), fun _ z => .inl z, fun z => (nomatch z), fun _ => ⟨p, rfl, np, R.le.free np, [], upd_same, Nat.zero_le _, .nil⟩⟩
theorem m1_of (hb : attributeBase o "get" X.env (eval o X.env) = eval o X.env) (hk : NS k) (hl : (apos.endLine == cpos.line) = true) : M1 X o "get" apos k cpos := by
  refine ⟨hb, star_few (fun e he => by simp at he; rw [he]; exact hk) (by simp), hl, ?_⟩
  rw [star_cons hk]
  rfl
theorem m2_of (hb : attributeBase o "get" X.env (eval o X.env) = eval o X.env) (hk : NS k) (hd : NS d) (hl : (apos.endLine == cpos.line) = true) : M2 X o "get" apos k d cpos := by
  refine ⟨hb, star_few (fun e he => by simp at he; rcases he with rfl | rfl <;> assumption) (by simp), hl, ?_⟩
  rw [star_cons hk, star_cons hd]
  rfl
theorem je_get2 {fa fk fd : En → Option (PyData × En)} (hu : X.A.units + 1 < cLine) (ha : JF X o q1 (qk && qd) fa) (hk : JP X k qk fk) (hd : JP X d qd fd) (m : M2 X o "get" apos k d cpos) :
    JE X (.Call (.Attribute o "get" apos) [k, d] [] cpos) (q1 && (qk && qd)) (fun env => match fa env with
      | some (x, env1) => (match fk env1 with
        | some (y, env2) => (match fd env2 with
          | some (z, env3) => (match meV .get x [y, z] with
            | some w => some (w, false, env3)
            | none => none)
          | none => none)
        | none => none)
      | none => none) := fun H0 => by
  refine PE.weak (pe_dget2 hu (ha H0) (hk H0) (hd H0) m) fun σ H Q ⟨G, env, res, R, e, qq⟩ => ?_
  dsimp only at e
  split at e
  · rename_i d1 env1 ea
    split at e
    · rename_i d2 env2 eb
      split at e
      · rename_i d3 env3 ec
        split at e
        · rename_i w eg
          cases e
          cases d1 with
          | dict kvs =>
            simp only [meV] at eg
            split at eg
            · rename_i x hk
              cases eg
              refine ⟨G, env, _, R, ea, fun v H1 G1 S1 p1 r1 => ?_⟩
              obtain ⟨c, ws0, e0, h0, _, _⟩ := r1.dict S1.rel.le
              refine ⟨c, e0, .inl ⟨_, .inl h0⟩, G1, env1, _, S1.rel, eb, fun y H2 G2 S2 r2 => ⟨G2, env2, _, S2.rel, ec, fun z H3 G3 S3 r3 => ?_⟩⟩
              have S23 : SteE X.K H0 (qk && qd) G1 H1 σ env1 G3 H3 env3 := S2.trans S3
              obtain ⟨c', ws, e1, h1, _, hr⟩ := (keep1 S23 p1 r1).dict S3.rel.le
              rw [e0] at e1
              cases e1
              have hy := RR.key (H := H3) (.inl (r2.mono S3.le)) hk
              refine ⟨valV ws x, by rw [hy]; exact DGet.k h1, qq _ _ ⟨G3, S1.trans S23, .pr ?_⟩⟩
              cases hg : getD kvs x with
              | none => rw [(getD_pr hr).2 hg]; exact r3
              | some u =>
                obtain ⟨v', h2, h3⟩ := (getD_pr hr).1 u hg
                rw [h2]
                exact h3
            · cases eg
          | _ => simp [meV] at eg
        · cases e
      · cases e
    · cases e
  · cases e
theorem je_get1 {fa fk : En → Option (PyData × En)} (hu : X.A.units + 1 < cLine) (ha : JF X o q1 qk fa) (hk : JP X k qk fk) (m : M1 X o "get" apos k cpos) :
    JE X (.Call (.Attribute o "get" apos) [k] [] cpos) (q1 && qk) (fun env => match fa env with
      | some (x, env1) => (match fk env1 with
        | some (y, env2) => (match meV .get x [y] with
          | some w => some (w, false, env2)
          | none => none)
        | none => none)
      | none => none) := fun H0 => by
  refine PE.weak (pe_dget1 hu (ha H0) (hk H0) m) fun σ H Q ⟨G, env, res, R, e, qq⟩ => ?_
  dsimp only at e
  split at e
  · rename_i d1 env1 ea
    split at e
    · rename_i d2 env2 eb
      split at e
      · rename_i w eg
        cases e
        cases d1 with
        | dict kvs =>
          simp only [meV] at eg
          split at eg
          · rename_i x hk
            cases eg
            refine ⟨G, env, _, R, ea, fun v H1 G1 S1 p1 r1 => ?_⟩
            obtain ⟨c, ws0, e0, h0, _, _⟩ := r1.dict S1.rel.le
            refine ⟨c, e0, .inl ⟨_, .inl h0⟩, G1, env1, _, S1.rel, eb, fun y H2 G2 S2 r2 => ?_⟩
            obtain ⟨c', ws, e1, h1, _, hr⟩ := (keep1 S2 p1 r1).dict S2.rel.le
            rw [e0] at e1
            cases e1
            have hy := RR.key (H := H2) (.inl r2) hk
            refine ⟨valV ws x, by rw [hy]; exact DGet.k h1, qq _ _ ⟨G2, S1.trans S2, .pr ?_⟩⟩
            cases hg : getD kvs x with
            | none => rw [(getD_pr hr).2 hg]; exact .non
            | some u =>
              obtain ⟨v', h2, h3⟩ := (getD_pr hr).1 u hg
              rw [h2]
              exact h3
          · cases eg
        | _ => simp [meV] at eg
      · cases e
    · cases e
  · cases e
theorem mu_insert : MuS X "list.insert" (muV .insert) := by
  refine ⟨_, mt_insert, fun G H a d d' z ys ws Q s n c r eg q => ?_⟩
  simp only [muV] at eg
  unfold insertV at eg
  split at eg <;> first | (cases eg; done) | skip
  rename_i xs i y
  obtain ⟨w, u, rfl, rw', ru⟩ := PRs.two r
  obtain ⟨vs, hv, hz, hr⟩ := c
  split at eg
  · rename_i hlt
    cases eg
    rw [hr.length] at hlt
    obtain ⟨h1, h2, h3⟩ := hlt
    cases rw'
    refine ⟨a, vs, i, u, rfl, rfl, hv, h1, h2, by omega, q _ _ ⟨_, upd_same, ?_, ((hr.take i.toNat).append (.cons ru .nil)).append (hr.drop i.toNat)⟩ .non⟩
    simp only [List.length_append, List.length_take, List.length_drop, List.length_cons, List.length_nil]
    omega
  · cases eg
/-! ### list(range(..)) -/
theorem prs_rg {K : PySem.W.Frag} {G : Hp} (a b : Int) : PRs K G (rngD a b) (rgV a b) := by
  unfold rngD rgV
  rw [show ((List.range (b - a).toNat).map fun (i : Nat) => PyData.int (a + (i : Nat))) = ((List.range (b - a).toNat).map fun (i : Nat) => a + (i : Int)).map PyData.int by rw [List.map_map]; rfl,
    show ((List.range (b - a).toNat).map fun (i : Nat) => V.int (a + (i : Nat))) = ((List.range (b - a).toNat).map fun (i : Nat) => a + (i : Int)).map V.int by rw [List.map_map]; rfl]
  exact PRs.ints
theorem rgOk_ok {a b : Int} (h : rgOk a b = true) : RgOk a b := by
  simp only [rgOk, Bool.and_eq_true, decide_eq_true_eq] at h
  exact ⟨by omega, by omega, by omega, by omega, h.2⟩
theorem vn_rg {K : PySem.W.Frag} {G H : Hp} (s : Same G H) {a b : Int} (h : (rngD a b).length ≤ sizeLine) : (∀ q, H q = none → VNew K G H G (upd H q (.lst (rgV a b))) (.list (rngD a b)) true (.ref q)) ∧
    ∀ q, H q = none → VNew K G H (upd G q (.tup (rgV a b))) (upd H q (.tup (rgV a b))) (.tuple (rngD a b)) false (.ref q) := by
  have e : (rgV a b).length ≤ sizeLine := by
    have := (prs_rg (K := K) (G := G) a b).length
    omega
  exact ⟨fun q n => vn_lst s n (prs_rg a b) e, fun q n => vn_tup s n (prs_rg a b) e⟩
theorem rg_len {a b : Int} (h : rgOk a b = true) : (rngD a b).length ≤ sizeLine := by
  have := (rgOk_ok h).2.2.2.2
  simp only [rngD, List.length_map, List.length_range]
  rw [sizeLine_eq]
  omega
theorem je_lrg1 {tp : Bool} {x : Str} {fa : En → Option (PyData × En)} (hc : X.calm = true) (hx : x = if tp then "tuple" else "list") (hg : Gl X x) (hm : X.mg x = none) (hg2 : Gl X "range") (hm2 : X.mg "range" = none) (hs : NS a) (ha : JR X a q fa) :
    JE X (.Call (.Name x p) [.Call (.Name "range" p2) [a] [] pos2] [] pos) q (fun env => match fa env with
      | some (.int n, env1) => if rgOk 0 n then some (rgD tp 0 n, !tp, env1) else none
      | _ => none) := fun H0 => by
  have pr := prg_1 (pos := pos2) (p := p2) hg2 hm2 (ha H0) (star_cons hs)
  cases tp with
  | false =>
    subst hx
    refine PE.weak (pe_listRg hc hg hm pr) fun σ H Q ⟨G, env, r, R, e, qq⟩ => ?_
    dsimp only at e
    split at e
    · rename_i n env1 ea
      split at e
      · rename_i hr
        cases e
        refine ⟨G, env, _, R, ea, fun v H1 G1 S r1 => ⟨n, r1.int, rgOk_ok hr, fun q hq => ?_⟩⟩
        exact qq _ _ (fin_new S ((vn_rg S.rel.le (rg_len hr)).1 q hq))
      · cases e
    · cases e
  | true =>
    subst hx
    refine PE.weak (pe_tupRg hc hg hm pr) fun σ H Q ⟨G, env, r, R, e, qq⟩ => ?_
    dsimp only at e
    split at e
    · rename_i n env1 ea
      split at e
      · rename_i hr
        cases e
        refine ⟨G, env, _, R, ea, fun v H1 G1 S r1 => ⟨n, r1.int, rgOk_ok hr, fun q hq => ?_⟩⟩
        exact qq _ _ (fin_new S ((vn_rg S.rel.le (rg_len hr)).2 q hq))
      · cases e
    · cases e
theorem je_lrg2 {tp : Bool} {x : Str} {fa fb : En → Option (PyData × En)} (hc : X.calm = true) (hx : x = if tp then "tuple" else "list") (hg : Gl X x) (hm : X.mg x = none) (hg2 : Gl X "range") (hm2 : X.mg "range" = none) (hs : NS a) (hsb : NS b) (ha : JF X a q1 q2 fa) (hb : JR X b q2 fb) :
    JE X (.Call (.Name x p) [.Call (.Name "range" p2) [a, b] [] pos2] [] pos) (q1 && q2) (fun env => match fa env with
      | some (.int m, env1) => (match fb env1 with
        | some (.int n, env2) => if rgOk m n then some (rgD tp m n, !tp, env2) else none
        | _ => none)
      | _ => none) := fun H0 => by
  have pr := prg_2 (pos := pos2) (p := p2) hg2 hm2 (ha H0) (hb H0) (star_cons hs) (star_cons hsb) (by rw [star_cons hsb]; rfl)
  cases tp with
  | false =>
    subst hx
    refine PE.weak (pe_listRg hc hg hm pr) fun σ H Q ⟨G, env, r, R, e, qq⟩ => ?_
    dsimp only at e
    split at e
    · rename_i m env1 ea
      split at e
      · rename_i n env2 eb
        split at e
        · rename_i hr
          cases e
          refine ⟨G, env, _, R, ea, fun v H1 G1 S1 p1 r1 => ⟨G1, env1, _, S1.rel, eb, fun w H2 G2 S2 r2 => ⟨m, n, r1.int, r2.int, rgOk_ok hr, fun q hq => ?_⟩⟩⟩
          exact qq _ _ (fin_new (S1.trans S2) ((vn_rg S2.rel.le (rg_len hr)).1 q hq))
        · cases e
      · cases e
    · cases e
  | true =>
    subst hx
    refine PE.weak (pe_tupRg hc hg hm pr) fun σ H Q ⟨G, env, r, R, e, qq⟩ => ?_
    dsimp only at e
    split at e
    · rename_i m env1 ea
      split at e
      · rename_i n env2 eb
        split at e
        · rename_i hr
          cases e
          refine ⟨G, env, _, R, ea, fun v H1 G1 S1 p1 r1 => ⟨G1, env1, _, S1.rel, eb, fun w H2 G2 S2 r2 => ⟨m, n, r1.int, r2.int, rgOk_ok hr, fun q hq => ?_⟩⟩⟩
          exact qq _ _ (fin_new (S1.trans S2) ((vn_rg S2.rel.le (rg_len hr)).2 q hq))
        · cases e
      · cases e
    · cases e
/-! ### methods that change nothing -/
def MeS (X : Cx) (T id : String) (m : PyData → List PyData → Option PyData) : Prop :=
  ∃ r, MtR X id r ∧ ∀ (G H : Hp) (x : PyData) (v : V) (ys : List PyData) (ws : List V) (z : PyData) (Q : VK), Same G H → RR X.K G H x v → PRs X.K G ys ws → m x ys = some z → (∀ u, PR X.K G z u → Q u H) → r v ws H Q
theorem je_me {T id : String} {name : Str} {m : PyData → List PyData → Option PyData} {fa : En → Option (PyData × En)} {fl : En → Option (List PyData × En)} (pa : PlainAttrs T) (slot : PySem.Slot T name id) (hty : typeOf (.builtin id) = pure (.type "method_descriptor"))
    (hop : MeS X T id m) (hT : ∀ (G H : Hp) x v ys z, Same G H → RR X.K G H x v → m x ys = some z → tyV X.K T v H) (ha : JF X o q1 q2 fa) (hl : JPs X (e :: es) q2 fl) (hns : ∀ x ∈ e :: es, NS x) (h29 : (e :: es).length < 30)
    (hb : attributeBase o name X.env (eval o X.env) = eval o X.env) (hline : (apos.endLine == cpos.line) = true) :
    JE X (.Call (.Attribute o name apos) (e :: es) [] cpos) (q1 && q2) (fun env => match fa env with
      | some (x, env1) => (match fl env1 with
        | some (ys, env2) => (match m x ys with
          | some d => some (d, false, env2)
          | none => none)
        | none => none)
      | none => none) := fun H0 => by
  obtain ⟨r, hr, hop⟩ := hop
  refine PE.weak (pe_bm pa slot hty hr (ha H0) (hl H0) hb (star_few hns h29) hline (star_cons (hns e List.mem_cons_self)) (star_plain fun x hx => hns x (List.mem_cons_of_mem _ hx))) fun σ H Q ⟨G, env, res, R, e, qq⟩ => ?_
  dsimp only at e
  split at e
  · rename_i d1 env1 ea
    split at e
    · rename_i ys env2 eb
      split at e
      · rename_i z eg
        cases e
        refine ⟨G, env, _, R, ea, fun v H1 G1 S1 p1 r1 => ⟨hT G1 H1 d1 v ys z S1.rel.le r1 eg, G1, env1, _, S1.rel, eb, fun ws H2 G2 S2 r2 => ?_⟩⟩
        exact hop G2 H2 d1 v ys ws z Q S2.rel.le (keep1 S2 p1 r1) r2 eg fun u pu => qq u H2 ⟨G2, S1.trans S2, .pr pu⟩
      · cases e
    · cases e
  · cases e
theorem tyV_list {K : PySem.W.Frag} {G H : Hp} {xs : List PyData} {v : V} (s : Same G H) (r : RR K G H (.list xs) v) : tyV K "list" v H := by
  obtain ⟨a, vs, rfl, hl, _, _⟩ := r.list s
  exact .inl ⟨rfl, _, hl⟩
theorem count_inv {x z : PyData} {ys : List PyData} (h : meV .count x ys = some z) : ∃ xs k l, x = .list xs ∧ ys = [.int k] ∧ intsOf xs = some l ∧ z = .int ((l.count k : Nat) : Int) := by
  unfold meV at h
  split at h <;> try contradiction
  split at h <;> try contradiction
  rename_i hb
  cases h
  exact ⟨_, _, _, rfl, rfl, hb, rfl⟩
theorem index_inv {x z : PyData} {ys : List PyData} (h : meV .index x ys = some z) : ∃ xs d j, x = .list xs ∧ ys = [d] ∧ ok64 d = true ∧ ok64 (.list xs) = true ∧ findD xs d = some j ∧ z = .int ((j : Nat) : Int) := by
  unfold meV at h
  split at h <;> try contradiction
  split at h <;> try contradiction
  split at h <;> try contradiction
  rename_i hb _ _ hj
  cases h
  rw [Bool.and_eq_true] at hb
  exact ⟨_, _, _, rfl, rfl, hb.1, hb.2, hj, rfl⟩
theorem mes_count : MeS X "list" "list.count" (meV .count) := by
  refine ⟨_, mt_lcount, fun G H x v ys ws z Q s r p eg q => ?_⟩
  obtain ⟨xs, k, l, rfl, rfl, hb, rfl⟩ := count_inv eg
  obtain ⟨a, vs, rfl, hl, _, hr⟩ := r.list s
  obtain rfl := hr.of_ints hb
  obtain ⟨w, rfl, pw⟩ := p.one
  cases pw
  exact ⟨a, l, k, rfl, rfl, hl, q _ (.int _)⟩
theorem find_ok {d : PyData} : ∀ {xs : List PyData} {j : Nat}, findD xs d = some j → (∃ z, xs[j]? = some z ∧ PyData.eqv z d = true) ∧ ∀ (m : Nat) (z' : PyData), m < j → xs[m]? = some z' → PyData.eqv z' d = false := by
  intro xs j h
  unfold findD at h
  rw [List.findIdx?_eq_some_iff_getElem] at h
  obtain ⟨hj, h1, h2⟩ := h
  refine ⟨⟨xs[j], List.getElem?_eq_getElem hj, h1⟩, fun m z' hm hz => ?_⟩
  have := h2 m hm
  obtain ⟨hm2, e⟩ := List.getElem?_eq_some_iff.1 hz
  rw [e] at this
  simpa using this
theorem ok64_sh {d : PyData} (h : ok64 d = true) : SeqAt.shaped d = true := h
theorem ok64_lay {d : PyData} (h : ok64 d = true) : d.canLay0 = true := (Bool.and_eq_true_iff.mp h).1
theorem mes_indexL (hu : X.A.units + 66 < cLine) : MeS X "list" "list.index" (meV .index) := by
  refine ⟨_, mt_indexD (by omega), fun G H x v ys ws z Q s r p eg q => ?_⟩
  obtain ⟨xs, d, j, rfl, rfl, h1, h2, h3, rfl⟩ := index_inv eg
  obtain ⟨⟨zz, h4, h5⟩, h6⟩ := find_ok h3
  obtain ⟨a, vs, rfl, hl, _, hr⟩ := r.list s
  obtain ⟨w, rfl, pw⟩ := p.one
  exact ⟨a, w, d, _, j, zz, rfl, rfl, dp_of s r (ok64_lay h2), dp_of s (.inl pw) (ok64_lay h1), ok64_sh h2, ok64_sh h1, h4, h5, h6, q _ (.int _)⟩
theorem JE.or {f g h : En → Option Res} (hf : JE X e q f) (hg : JE X e q g) (w : ∀ env r, h env = some r → f env = some r ∨ g env = some r) : JE X e q h := fun H0 => PE.weak (PE.or (hf H0) (hg H0)) fun σ H Q ⟨G, env, r, R, e, qq⟩ => by
  rcases w env r e with e | e
  · exact .inl ⟨G, env, r, R, e, qq⟩
  · exact .inr ⟨G, env, r, R, e, qq⟩
/-- the methods of lists that change nothing -/
theorem je_meL {m : ME} {at' : Str} {fa : En → Option (PyData × En)} {fl : En → Option (List PyData × En)} (hu : X.A.units + 66 < cLine) (hm : (m = .count ∧ at' = "count") ∨ (m = .index ∧ at' = "index")) (ha : JF X o q1 q2 fa) (hl : JPs X (e :: es) q2 fl) (hns : ∀ x ∈ e :: es, NS x) (h29 : (e :: es).length < 30)
    (hb : attributeBase o at' X.env (eval o X.env) = eval o X.env) (hline : (apos.endLine == cpos.line) = true) :
    JE X (.Call (.Attribute o at' apos) (e :: es) [] cpos) (q1 && q2) (fun env => match fa env with
      | some (x, env1) => (match fl env1 with
        | some (ys, env2) => (match meV m x ys with
          | some d => some (d, false, env2)
          | none => none)
        | none => none)
      | none => none) := by
  have go : ∀ {id : String}, PySem.Slot "list" at' id → typeOf (.builtin id) = pure (.type "method_descriptor") → MeS X "list" id (meV m) → (∀ x ys z, meV m x ys = some z → ∃ xs, x = .list xs) → JE X (.Call (.Attribute o at' apos) (e :: es) [] cpos) (q1 && q2) (fun env => match fa env with
      | some (x, env1) => (match fl env1 with
        | some (ys, env2) => (match meV m x ys with
          | some d => some (d, false, env2)
          | none => none)
        | none => none)
      | none => none) := fun {id} slot hty hs h1 =>
    je_me (apos := apos) (cpos := cpos) F.plainAttrs_list slot hty hs (fun G H x v ys z s r eg => by
      obtain ⟨xs, rfl⟩ := h1 x ys z eg
      exact tyV_list s r) ha hl hns h29 hb hline
  rcases hm with ⟨rfl, rfl⟩ | ⟨rfl, rfl⟩
  · exact go F.slot_list_count F.type_list_count mes_count (fun x ys z h => by obtain ⟨xs, _, _, rfl, _⟩ := count_inv h; exact ⟨xs, rfl⟩)
  · exact go F.slot_list_index F.type_list_index (mes_indexL hu) (fun x ys z h => by obtain ⟨xs, _, _, rfl, _⟩ := index_inv h; exact ⟨xs, rfl⟩)
end
end VI
set_option maxRecDepth 100000
set_option maxHeartbeats 4000000
/-! VI: the checker of expressions. -/
namespace VI
open PySem PySem.Spec PyProof.Rows L2
/-! ### what an expression keeps -/
section
variable {X : Cx} {e a b : Expr} {q q' : Bool}
theorem JE.eq {f g : En → Option Res} (h : JE X e q f) (w : ∀ env, g env = f env) : JE X e q g := fun H0 => PE.weak (h H0) fun σ H Q ⟨G, env, r, R, e, qq⟩ => ⟨G, env, r, R, (w env).symm.trans e, qq⟩
theorem JT.eq {f g : En → Option (Bool × En)} (h : JT X e q f) (w : ∀ env, g env = f env) : JT X e q g := fun H0 => PT.weak (h H0) fun σ H Q ⟨G, env, r, R, e, qq⟩ => ⟨G, env, r, R, (w env).symm.trans e, qq⟩
theorem JR.eq {f g : En → Option (PyData × En)} (h : JR X e q f) (w : ∀ env, g env = f env) : JR X e q g := fun H0 => PE.weak (h H0) fun σ H Q ⟨G, env, r, R, e, qq⟩ => ⟨G, env, r, R, (w env).symm.trans e, qq⟩
theorem JE.qq {f : En → Option Res} (h : JE X e q f) (w : q' = true → q = true) : JE X e q' f := fun H0 => PE.weak (h H0) fun σ H Q ⟨G, env, r, R, e, qq⟩ => ⟨G, env, r, R, e, fun v H' ⟨G', S, V⟩ => qq v H' ⟨G', S.to w, V⟩⟩
theorem JT.qq {f : En → Option (Bool × En)} (h : JT X e q f) (w : q' = true → q = true) : JT X e q' f := fun H0 => PT.weak (h H0) fun σ H Q ⟨G, env, r, R, e, qq⟩ => ⟨G, env, r, R, e, fun H' G' S => qq H' G' (S.to w)⟩
structure OkE (X : Cx) (C : CallF) (e : Expr) (ie : IE) : Prop where
  ns : NS e
  je : JE X e (quiet ie) (ev C ie)
  jr : JR X e (quiet ie) (rdOf ie (ev C ie))
  tk : JE X e (quiet ie) (tkOf ie (ev C ie))
  jt : JT X e (quiet ie) (fun env => truE (pers (ev C ie env)))
  tt : JT X e (quiet ie) (tst ie (ev C ie))
  vr : ∀ i, ie = .var i → ∃ x p, e = .Name x p ∧ X.N[i]? = some x ∧ Vis X.env.scope x ∧ (x == ("__debug__" : Str)) = false ∧ (x == ("__classdict__" : Str)) = false
theorem OkE.ofT {C : CallF} {ie : IE} (nv : ∀ i, ie ≠ .var i) (ns : NS e) (je : JE X e (quiet ie) (ev C ie)) (jt : JT X e (quiet ie) (fun env => truE (pers (ev C ie env)))) : OkE X C e ie := by
  have e1 : rdOf ie (ev C ie) = fun env => pers (ev C ie env) := by cases ie <;> first | rfl | exact absurd rfl (nv _)
  have e2 : tkOf ie (ev C ie) = ev C ie := by cases ie <;> first | rfl | exact absurd rfl (nv _)
  refine ⟨ns, je, by rw [e1]; exact je.r, by rw [e2]; exact je, jt, jt.eq fun env => ?_, fun i z => absurd z (nv i)⟩
  unfold tst
  rw [e1]
theorem OkE.of {C : CallF} {ie : IE} (nv : ∀ i, ie ≠ .var i) (ns : NS e) (pl : ∀ whole, isTrue e X.env whole = (do let v ← whole; standAt e.pos; holding [v] (truthy v))) (je : JE X e (quiet ie) (ev C ie)) : OkE X C e ie :=
  OkE.ofT nv ns je (jt_val je.r pl)
theorem OkE.jf {C : CallF} {ie : IE} {q2 : Bool} (h : OkE X C e ie) : JF X e (quiet ie) q2 (fstOf q2 ie (ev C ie)) := JF.of h.jr h.je
end
/-! ### what is known of the module and of a scope -/
structure Tab where
  blt : List Str
  fns : List (Str × Nat)
  cst : List (Str × PyData)
/-- a name of the module's own, bound to data for good -/
def CstS (X : Cx) (x : Str) (d : PyData) : Prop := ∃ v u, X.mg x = some u ∧ RelV v u ∧ ∀ G : Hp, PR X.K G d v
mutual
def atEq : PyData → PyData → Bool
  | .int i, .int j => decide (i = j)
  | .str x, .str y => decide (x = y)
  | .tuple xs, .tuple ys => atEqs xs ys
  | _, _ => false
def atEqs : List PyData → List PyData → Bool
  | [], [] => true
  | x :: xs, y :: ys => atEq x y && atEqs xs ys
  | _, _ => false
end
mutual
theorem atEq_ok : ∀ {a b : PyData}, atEq a b = true → a = b
  | .int i, .int j, h => by simp only [atEq, decide_eq_true_eq] at h; rw [h]
  | .str x, .str y, h => by simp only [atEq, decide_eq_true_eq] at h; rw [h]
  | .tuple xs, .tuple ys, h => by simp only [atEq] at h; rw [atEqs_ok h]
  | .none, _, h => by simp [atEq] at h
  | .bool _, _, h => by simp [atEq] at h
  | .list _, _, h => by simp [atEq] at h
  | .dict _, _, h => by simp [atEq] at h
  | .int _, .none, h | .int _, .bool _, h | .int _, .str _, h | .int _, .list _, h | .int _, .tuple _, h | .int _, .dict _, h => by simp [atEq] at h
  | .str _, .none, h | .str _, .bool _, h | .str _, .int _, h | .str _, .list _, h | .str _, .tuple _, h | .str _, .dict _, h => by simp [atEq] at h
  | .tuple _, .none, h | .tuple _, .bool _, h | .tuple _, .int _, h | .tuple _, .list _, h | .tuple _, .str _, h | .tuple _, .dict _, h => by simp [atEq] at h
theorem atEqs_ok : ∀ {a b : List PyData}, atEqs a b = true → a = b
  | [], [], _ => rfl
  | x :: xs, y :: ys, h => by
    simp only [atEqs, Bool.and_eq_true] at h
    rw [atEq_ok h.1, atEqs_ok h.2]
  | [], _ :: _, h => by simp [atEqs] at h
  | _ :: _, [], h => by simp [atEqs] at h
end
def FnS (X : Cx) (C : CallF) (f : Nat) (x : Str) (n : Nat) : Prop :=
  (∀ args d own fs, C f args = some (d, own, fs) → args.length = n ∧ fs.length = n) ∧ ∃ (k : Nat) (a : Addr) (fd : FuncData) (ps : List Str), FnG X.prog X.w X.K X.mg X.base k a fd ps (spVI X.K n (C f)) ∧ Room k X.A ∧ X.mg x = some (.ref a) ∧
    PySem.W.keepIn X.K (.ref a) = true ∧ Binds X.K fd ps [] ∧ (x == ("__debug__" : Str)) = false
structure OkX (N : List Str) (sc : Scope) (T : Tab) (C : CallF) (X : Cx) : Prop where
  nm : X.N = N
  nd : N.Nodup
  sc : X.env.scope = sc
  calm : X.calm = true
  un : X.A.units + 66 < cLine
  gd : X.A.guards = some []
  mgB : ∀ x ∈ T.blt, X.mg x = none
  fns : ∀ f x n, T.fns[f]? = some (x, n) → FnS X C f x n
  cst : ∀ c ∈ T.cst, CstS X c.1 c.2
def visB (N : List Str) (sc : Scope) (i : Nat) (x : Str) : Bool :=
  decide (N[i]? = some x) && (match sc.names.lookup x with
    | some .local => true
    | some .cell => true
    | some .free => true
    | _ => false) && !(x == ("__debug__" : Str)) && !(x == ("__classdict__" : Str))
def glB (sc : Scope) (x : Str) : Bool := decide (sc.names.lookup x = some .globalImplicit)
theorem visB_ok {N : List Str} {sc : Scope} {i : Nat} {x : Str} (h : visB N sc i x = true) : N[i]? = some x ∧ Vis sc x ∧ (x == ("__debug__" : Str)) = false ∧ (x == ("__classdict__" : Str)) = false := by
  unfold visB at h
  simp only [Bool.and_eq_true, decide_eq_true_eq, Bool.not_eq_true'] at h
  obtain ⟨⟨⟨h1, h2⟩, h3⟩, h4⟩ := h
  refine ⟨h1, ?_, h3, h4⟩
  split at h2
  · rename_i z; exact .inl z
  · rename_i z; exact .inr (.inl z)
  · rename_i z; exact .inr (.inr z)
  · cases h2
def bltB (T : Tab) (sc : Scope) (x : Str) : Bool := glB sc x && decide (x ∈ T.blt)
theorem bltB_ok {N : List Str} {sc : Scope} {T : Tab} {C : CallF} {X : Cx} {x : Str} (O : OkX N sc T C X) (h : bltB T sc x = true) : Gl X x ∧ X.mg x = none := by
  unfold bltB glB at h
  simp only [Bool.and_eq_true, decide_eq_true_eq] at h
  refine ⟨?_, O.mgB x h.2⟩
  unfold Gl Env.kindOf
  rw [O.sc]
  exact h.1
/-! ### constants -/
def chC : PyData → Expr → Bool
  | .none, .Constant .none _ _ => true
  | .bool b, .Constant (.bool c) _ _ => b == c
  | .int i, .Constant (.int j) _ _ => decide (i = j)
  | .str x, .Constant (.str y) _ _ => decide (x = y)
  | _, _ => false
theorem chC_ok {X : Cx} {C : CallF} {d : PyData} {e : Expr} (h : chC d e = true) : OkE X C e (.cst d) := by
  unfold chC at h
  split at h
  · exact OkE.of (fun i z => nomatch z) (fun x p z => nomatch z) (fun _ => rfl) ((je_cst pe_non fun G => .non).eq fun env => by simp only [ev])
  · obtain rfl := eq_of_beq h
    exact OkE.of (fun i z => nomatch z) (fun x p z => nomatch z) (fun _ => rfl) ((je_cst pe_bl fun G => .bl _).eq fun env => by simp only [ev])
  · obtain rfl := of_decide_eq_true h
    exact OkE.of (fun i z => nomatch z) (fun x p z => nomatch z) (fun _ => rfl) ((je_cst pe_int fun G => .int _).eq fun env => by simp only [ev])
  · obtain rfl := of_decide_eq_true h
    exact OkE.of (fun i z => nomatch z) (fun x p z => nomatch z) (fun _ => rfl) ((je_cst pe_str fun G => .str _).eq fun env => by simp only [ev])
  · cases h
/-! ### builtins of one value -/
def biF : BI → Option (Str × Value)
  | .len => some ("len", .builtin "len")
  | .abs => some ("abs", .builtin "abs")
  | .tuple => some ("tuple", .type "tuple")
  | .list => some ("list", .type "list")
  | .all => some ("all", .builtin "all")
  | .any => some ("any", .builtin "any")
  | .sum => some ("sum", .builtin "sum")
  | .sorted => some ("sorted", .builtin "sorted")
  | .int => some ("int", .type "int")
  | .str => some ("str", .type "str")
  | .repr => some ("repr", .builtin "repr")
  | .maxl => some ("max", .builtin "max")
  | .minl => some ("min", .builtin "min")
  | _ => none
theorem cs_biV {X : Cx} (hc : X.calm = true) (hg : X.A.guards = some []) (hu : X.A.units + 66 < cLine) {b : BI} {x : Str} {F : Value} (h : biF b = some (x, F)) : CallS X F (biV b) ∧ bootBuiltins x = some F ∧ x ≠ "__name__" ∧ (x == ("__debug__" : Str)) = false ∧ ((∃ id, F = .builtin id) ∨ ∃ t, F = .type t) := by
  cases b <;> simp only [biF] at h <;> cases h
  · exact ⟨cs_len, by decide +kernel, by decide, by decide, .inl ⟨_, rfl⟩⟩
  · exact ⟨cs_abs, by decide +kernel, by decide, by decide, .inl ⟨_, rfl⟩⟩
  · exact ⟨cs_tuple, by decide +kernel, by decide, by decide, .inr ⟨_, rfl⟩⟩
  · exact ⟨cs_list, by decide +kernel, by decide, by decide, .inr ⟨_, rfl⟩⟩
  · exact ⟨cs_all hc, by decide +kernel, by decide, by decide, .inl ⟨_, rfl⟩⟩
  · exact ⟨cs_any hc, by decide +kernel, by decide, by decide, .inl ⟨_, rfl⟩⟩
  · exact ⟨cs_sum hc, by decide +kernel, by decide, by decide, .inl ⟨_, rfl⟩⟩
  · refine ⟨?_, by decide +kernel, by decide, by decide, .inl ⟨_, rfl⟩⟩
    obtain ⟨r, h1, h2⟩ := cs_sortedL (X := X)
    refine ⟨r, h1, fun G H d x z own Q s rr eg q => h2 G H d x z own Q s rr ?_ q⟩
    cases d <;> first | exact eg | (simp only [biV] at eg; cases eg)
  · exact ⟨cs_int, by decide +kernel, by decide, by decide, .inr ⟨_, rfl⟩⟩
  · exact ⟨cs_str, by decide +kernel, by decide, by decide, .inr ⟨_, rfl⟩⟩
  · exact ⟨cs_repr hg hu, by decide +kernel, by decide, by decide, .inl ⟨_, rfl⟩⟩
  · exact ⟨cs_minl hc, by decide +kernel, by decide, by decide, .inl ⟨_, rfl⟩⟩
  · exact ⟨cs_maxl hc, by decide +kernel, by decide, by decide, .inl ⟨_, rfl⟩⟩
theorem pe_callF {X : Cx} {F : Value} {x : Str} {r : List V → Hp → VK → Prop} {e : Expr} {es : List Expr} {t : TA} {p pos : Pos} (hF : (∃ id, F = .builtin id) ∨ ∃ t, F = .type t) (hc : CallR X F r) (hg : Gl X x) (hm : X.mg x = none) (hv : bootBuiltins x = some F) (hn : x ≠ "__name__") (hd : (x == ("__debug__" : Str)) = false)
    (ha : PA X (e :: es) t) (he : starEach (e :: es) X.env = (false, eval e X.env) :: starEach es X.env) (hpl : (backTo pos (starEach es X.env)).any (·.1) = false) : PE X (.Call (.Name x p) (e :: es) [] pos) (tCB r t) := by
  rcases hF with ⟨id, rfl⟩ | ⟨T, rfl⟩
  · exact pe_callB hc hg hm hv ha hn hd he hpl
  · exact pe_callTy hc hg hm hv ha hn hd he hpl
/-! ### classes by name -/
def tyF : List String := ["int", "bool", "str", "list", "tuple", "dict"]
def chTy (T : Tab) (sc : Scope) (t : String) : Expr → Bool
  | .Name x _ => tyF.contains t && decide (x = Str.ofString t) && bltB T sc x
  | _ => false
theorem boot_ty {t : String} (h : tyF.contains t = true) : bootBuiltins (Str.ofString t) = some (.type t) ∧ Str.ofString t ≠ "__name__" ∧ (Str.ofString t == ("__debug__" : Str)) = false := by
  have : ∀ t ∈ tyF, bootBuiltins (Str.ofString t) = some (.type t) ∧ Str.ofString t ≠ "__name__" ∧ (Str.ofString t == ("__debug__" : Str)) = false := by
    intro t ht
    simp only [tyF, List.mem_cons, List.mem_nil_iff, or_false] at ht
    rcases ht with rfl | rfl | rfl | rfl | rfl | rfl <;> exact ⟨by decide +kernel, by decide, by decide⟩
  exact this t (by simpa using h)
theorem chTy_ok {N : List Str} {sc : Scope} {T : Tab} {C : CallF} {X : Cx} {t : String} {e : Expr} (O : OkX N sc T C X) (h : chTy T sc t e = true) : tyOk t = true ∧ NS e ∧ PE X e (tC (.ty t)) := by
  unfold chTy at h
  split at h
  · simp only [Bool.and_eq_true, decide_eq_true_eq] at h
    obtain ⟨⟨h1, rfl⟩, h3⟩ := h
    obtain ⟨g1, g2⟩ := bltB_ok O h3
    obtain ⟨b1, b2, b3⟩ := boot_ty h1
    exact ⟨h1, (fun x p z => nomatch z), pe_bltn (v := .ty t) g1 g2 b1 rfl b2 b3⟩
  · cases h
def chTys (T : Tab) (sc : Scope) : List String → List Expr → Bool
  | [], [] => true
  | t :: ts, e :: es => chTy T sc t e && chTys T sc ts es
  | _, _ => false
theorem chTys_ok {N : List Str} {sc : Scope} {T : Tab} {C : CallF} {X : Cx} (O : OkX N sc T C X) : ∀ {ts : List String} {es : List Expr}, chTys T sc ts es = true → ts.all tyOk = true ∧ (∀ e ∈ es, NS e) ∧ es.length = ts.length ∧ ∀ (i : Nat) (t : String), ts[i]? = some t → ∃ e, es[i]? = some e ∧ PE X e (tC (.ty t))
  | [], [], _ => ⟨rfl, by simp, rfl, by simp⟩
  | t :: ts, e :: es, h => by
    simp only [chTys, Bool.and_eq_true] at h
    obtain ⟨k1, k2, k3⟩ := chTy_ok O h.1
    obtain ⟨j1, j2, j3, j4⟩ := chTys_ok O h.2
    refine ⟨by simp [k1, j1], fun x hx => ?_, by simp [j3], fun i u hu => ?_⟩
    · rcases List.mem_cons.mp hx with rfl | hx
      · exact k2
      · exact j2 x hx
    · cases i with
      | zero =>
        simp at hu
        subst hu
        exact ⟨e, rfl, k3⟩
      | succ i => exact j4 i u (by simpa using hu)
  | [], _ :: _, h => by simp [chTys] at h
  | _ :: _, [], h => by simp [chTys] at h
end VI
set_option maxRecDepth 100000
set_option maxHeartbeats 4000000
/-! VI: the checker of expressions. -/
namespace VI
open PySem PySem.Spec PyProof.Rows L2
def muN : MU → Option Str
  | .append => some "append"
  | .extend => some "extend"
  | .pop => some "pop"
  | .reverse => some "reverse"
  | .clear => some "clear"
  | .insert => some "insert"
  | _ => none
def nsB : Expr → Bool
  | .Starred _ _ => false
  | _ => true
def plB : Expr → Bool
  | .Slice _ _ _ _ => false
  | _ => true
def notSet : Expr → Bool
  | .Set _ _ _ => false
  | _ => true
def baseB : Expr → Bool
  | .Call _ [] _ _ => false
  | _ => true
-- the slots of a target, its names behind them
mutual
def chTg (N : List Str) (p : Str → Bool) : Tgt → Expr → Bool
  | .nm i, e => (match e with
    | .Name x _ => decide (N[i]? = some x) && p x
    | _ => false)
  | .tp l, e => (match e with
    | .Tuple es _ _ => chTgs N p l es
    | _ => false)
def chTgs (N : List Str) (p : Str → Bool) : List Tgt → List Expr → Bool
  | [], [] => true
  | t :: l, e :: es => chTg N p t e && chTgs N p l es
  | _, _ => false
end
def locB (sc : Scope) (x : Str) : Bool := match sc.names.lookup x with
  | some .local => true
  | some .cell => true
  | _ => false
def blkB (sc scope : Scope) (x : Str) : Bool := match (relS scope sc).names.lookup x with
  | some .local => true
  | some .cell => decide (scope.names.lookup x = some .cell)
  | _ => false
mutual
def chE (T : Tab) (N : List Str) : Scope → IE → Expr → Bool
  | sc, .cst d, e => chC d e
  | sc, .var i, e => (match e with
    | .Name x _ => visB N sc i x
    | _ => false)
  | sc, .glb x d, e => (match e with
    | .Name y _ => decide (x = y) && glB sc x && !(x == ("__debug__" : Str)) && T.cst.any fun c => decide (c.1 = x) && atEq c.2 d
    | _ => false)
  | sc, .bop o a b, e => (match e with
    | .BinOp l op r _ => decide (op = opB o) && chE T N sc a l && chE T N sc b r
    | _ => false)
  | sc, .cmp o a b, e => (match e with
    | .Compare l [op] [r] _ => decide (op = opC o) && !behindInMarks op r && chE T N sc a l && chE T N sc b r
    | _ => false)
  | sc, .chn o p a b c, e => (match e with
    | .Compare l [op, op'] [r, r'] _ => decide (op = opC o) && decide (op' = opC p) && !lastMarks [op, op'] [r, r'] && chE T N sc a l && chE T N sc b r && chE T N sc c r'
    | _ => false)
  | sc, .nt a, e => (match e with
    | .UnaryOp .Not x _ => chE T N sc a x
    | _ => false)
  | sc, .neg a, e => (match e with
    | .UnaryOp .USub x _ => chE T N sc a x
    | _ => false)
  | sc, .andv l, e => (match e with
    | .BoolOp .And es _ => chEs T N sc l es && !l.isEmpty
    | _ => false)
  | sc, .orv l, e => (match e with
    | .BoolOp .Or es _ => chEs T N sc l es && !l.isEmpty
    | _ => false)
  | sc, .ifx c a b, e => (match e with
    | .IfExp t x y _ => chE T N sc c t && chE T N sc a x && chE T N sc b y
    | _ => false)
  | sc, .call f l, e => (match e with
    | .Call (.Name x _) es [] _ => glB sc x && decide (T.fns[f]? = some (x, l.length)) && chEs T N sc l es && !l.isEmpty
    | _ => false)
  | sc, .bi b a, e => (match e with
    | .Call (.Name x _) [y] [] _ => (match biF b with
      | some (x', _) => decide (x = x') && bltB T sc x && chE T N sc a y
      | none => (match b, y with
        | .set, .Call (.Name x2 _) [z] [] _ => decide (x = "len") && bltB T sc "len" && decide (x2 = "set") && bltB T sc "set" && chE T N sc a z
        | _, _ => false))
    | _ => false)
  | sc, .inst a ts, e => (match e with
    | .Call (.Name x _) [y, t] [] _ => decide (x = "isinstance") && bltB T sc x && chE T N sc a y && (match ts with
      | [t'] => chTy T sc t' t
      | _ => (match t with
        | .Tuple es _ _ => chTys T sc ts es && decide (ts.length ≤ 10)
        | _ => false))
    | _ => false)
  | sc, .bi2 b a c, e => (match e with
    | .Call (.Name x _) [y, z] [] _ => (match b with
      | .max2 => decide (x = "max") && bltB T sc "max" && chE T N sc a y && chE T N sc c z
      | .min2 => decide (x = "min") && bltB T sc "min" && chE T N sc a y && chE T N sc c z
      | _ => false)
    | _ => false)
  | sc, .mu m i l, e => (match e with
    | .Call (.Attribute (.Name x _) at' apos) es [] cpos => visB N sc i x && decide (muN m = some at') && (apos.endLine == cpos.line) && chEs T N sc l es && decide (l.length < 29)
    | _ => false)
  | sc, .ix a b, e => (match e with
    | .Subscript x y _ => plB y && chE T N sc a x && chE T N sc b y
    | _ => false)
  | sc, .sl a lo hi, e => (match e with
    | .Subscript x (.Slice lo' hi' none _) _ => chE T N sc a x && chO T N sc lo lo' && chO T N sc hi hi'
    | _ => false)
  | sc, .rev a, e => (match e with
    | .Subscript x (.Slice none none (some (.UnaryOp .USub (.Constant (.int 1) _ _) _)) _) _ => chE T N sc a x
    | _ => false)
  | sc, .tup l, e => (match e with
    | .Tuple es _ _ => chEs T N sc l es
    | _ => false)
  | sc, .lst l, e => (match e with
    | .List es _ => chEs T N sc l es
    | _ => false)
  | sc, .dct l, e => (match e with
    | .Dict ks vs _ => (l.isEmpty && ks.isEmpty && vs.isEmpty) || (chD T N sc l ks vs && !ks.isEmpty && decide (ks.length ≤ 15))
    | _ => false)
  | sc, .lrg1 tp a, e => (match e with
    | .Call (.Name x _) [.Call (.Name y _) [z] [] _] [] _ => decide (x = if tp then "tuple" else "list") && bltB T sc x && decide (y = "range") && bltB T sc y && chE T N sc a z
    | _ => false)
  | sc, .lrg2 tp a b, e => (match e with
    | .Call (.Name x _) [.Call (.Name y _) [z, w] [] _] [] _ => decide (x = if tp then "tuple" else "list") && bltB T sc x && decide (y = "range") && bltB T sc y && chE T N sc a z && chE T N sc b w
    | _ => false)
  | sc, .me m r l, e => (match e with
    | .Call (.Attribute o at' apos) es [] cpos => baseB o && (apos.endLine == cpos.line) && chE T N sc r o && chEs T N sc l es && (match m with
      | .get => decide (at' = "get") && (decide (l.length = 1) || decide (l.length = 2))
      | .count => decide (at' = "count") && decide (l.length = 1)
      | .index => decide (at' = "index") && decide (l.length = 1)
      | _ => false)
    | _ => false)
  | sc, .cmpr b t it cs, e => (match e with
    | .ListComp elt [⟨tg, iter, ifs, 0⟩] scope _ => chIt T N sc it tg iter && notSet iter && blkC N sc scope ((tgs t).map fun i => (N.getD i "", i)) && chTg N (blkB sc scope) t tg && chCs T N (relS scope sc) cs ifs && chE T N (relS scope sc) b elt
    | _ => false)
def chEs (T : Tab) (N : List Str) : Scope → List IE → List Expr → Bool
  | _, [], [] => true
  | sc, a :: l, e :: es => chE T N sc a e && chEs T N sc l es
  | _, _, _ => false
def chCs (T : Tab) (N : List Str) : Scope → List IE → List Expr → Bool
  | _, [], [] => true
  | sc, [a], [e] => chE T N sc a e
  | _, _, _ => false
def chO (T : Tab) (N : List Str) : Scope → Option IE → Option Expr → Bool
  | _, none, none => true
  | sc, some a, some e => chE T N sc a e
  | _, _, _ => false
def chD (T : Tab) (N : List Str) : Scope → List IE → List (Option Expr) → List Expr → Bool
  | _, [], [], [] => true
  | sc, a :: b :: l, some k :: ks, v :: vs => chE T N sc a k && chE T N sc b v && chD T N sc l ks vs
  | _, _, _, _ => false
def chIt (T : Tab) (N : List Str) : Scope → It → Expr → Expr → Bool
  | sc, .val a, _, e => chE T N sc a e
  | sc, .hid i, _, e => (match e with
    | .Name x _ => visB N sc i x
    | _ => false)
  | sc, .rng1 a, _, e => (match e with
    | .Call (.Name x _) [y] [] _ => decide (x = "range") && bltB T sc x && chE T N sc a y
    | _ => false)
  | sc, .rng2 a b, _, e => (match e with
    | .Call (.Name x _) [y, z] [] _ => decide (x = "range") && bltB T sc x && chE T N sc a y && chE T N sc b z
    | _ => false)
  | sc, .enum a, tg, e => (match tg with
    | .Tuple _ _ _ => (match e with
      | .Call (.Name x _) [y] [] _ => decide (x = "enumerate") && bltB T sc x && chE T N sc a y
      | _ => false)
    | _ => false)
  | sc, .zip a b, tg, e => (match tg with
    | .Tuple _ _ _ => (match e with
      | .Call (.Name x _) [y, z] [] _ => decide (x = "zip") && bltB T sc x && chE T N sc a y && chE T N sc b z
      | _ => false)
    | _ => false)
  | _, _, _, _ => false
end
end VI
set_option maxRecDepth 100000
set_option maxHeartbeats 4000000
/-! VI: what the checker lets by. -/
namespace VI
open PySem PySem.Spec PyProof.Rows L2
section
variable {X : Cx} {C : CallF} {e a b c o : Expr} {es : List Expr} {pos p : Pos} {ia ib ic : IE} {il : List IE}
inductive OkEs (X : Cx) (C : CallF) : List Expr → List IE → Prop
  | nil : OkEs X C [] []
  | cons {e : Expr} {ie : IE} {es : List Expr} {il : List IE} : OkE X C e ie → OkEs X C es il → OkEs X C (e :: es) (ie :: il)
theorem OkEs.len : ∀ {es : List Expr} {il : List IE}, OkEs X C es il → es.length = il.length
  | _, _, .nil => rfl
  | _, _, .cons _ t => by simp [t.len]
theorem OkEs.ns : ∀ {es : List Expr} {il : List IE}, OkEs X C es il → ∀ e ∈ es, NS e
  | _, _, .nil, _, h => nomatch h
  | _, _, .cons h t, e, m => by
    rcases List.mem_cons.mp m with rfl | m
    · exact h.ns
    · exact t.ns e m
theorem OkEs.jps : ∀ {es : List Expr} {il : List IE}, OkEs X C es il → JPs X es (quiets il) (evs C il)
  | _, _, .nil => by simpa only [quiets] using jps_nil C
  | _, _, .cons h t => by simpa only [quiets] using jps_cons h.je t.jps h.ns
theorem OkEs.jargs : ∀ {es : List Expr} {il : List IE}, OkEs X C es il → JArgs X es (evArgs C il)
  | _, _, .nil => jargs_nil C
  | _, _, .cons (ie := ie) h t => by
    by_cases hv : ∃ i, ie = .var i
    · obtain ⟨i, rfl⟩ := hv
      obtain ⟨x, p, rfl, h1, h2, h3, h4⟩ := h.vr i rfl
      exact jargs_at h1 h2 h3 h4 t.jargs
    · exact jargs_val (fun i z => hv ⟨i, z⟩) h.je t.jargs h.ns
theorem OkEs.and : ∀ {es : List Expr} {il : List IE}, OkEs X C es il → il ≠ [] → JE X (.BoolOp .And es pos) (quiets il) (evAnd C il) ∧ JW X (.BoolOp .And es pos) (quiets il) (fun env => truE (pers (evAnd C il env)))
  | _, _, .nil, h => absurd rfl h
  | _, _, .cons (ie := ie) (il := []) h .nil, _ => by
    refine ⟨((je_one h.je.kept).eq fun env => by simp only [evAnd] <;> rfl).qq fun z => by simpa [quiets] using z, ?_⟩
    have := jw_and1 (pos := pos) (h.jt.qq (q' := quiets [ie]) fun z => by simpa [quiets] using z)
    refine fun H0 => PW.weak (this H0) fun σ H Q ⟨G, env, r, R, e, qq⟩ => ⟨G, env, r, R, ?_, qq⟩
    rw [← e]
    dsimp only
    simp only [evAnd]
    cases ev C ie env with
    | none => rfl
    | some x => rfl
  | _, _, .cons (ie := ie) (il := i2 :: il) h (.cons h2 t), _ => by
    obtain ⟨k1, k2⟩ := (OkEs.cons h2 t).and (by simp)
    refine ⟨((je_and2 h.je k1).eq fun env => by simp only [evAnd] <;> rfl).qq fun z => by simpa only [quiets] using z, ?_⟩
    have := jw_and2 (pos := pos) h.jt k2
    refine fun H0 => PW.weak (this H0) fun σ H Q ⟨G, env, r, R, e, qq⟩ => ⟨G, env, r, R, ?_, fun H' G' S => qq H' G' (S.to fun z => by simpa only [quiets] using z)⟩
    rw [← e]
    dsimp only
    simp only [evAnd]
    cases ev C ie env with
    | none => rfl
    | some x =>
      obtain ⟨d, own, env1⟩ := x
      simp only [pers, truE]
      cases hk : truV d with
      | none => rfl
      | some k => cases k <;> simp [pers, truE, hk]
theorem OkEs.or : ∀ {es : List Expr} {il : List IE}, OkEs X C es il → il ≠ [] → JE X (.BoolOp .Or es pos) (quiets il) (evOr C il) ∧ JW X (.BoolOp .Or es pos) (quiets il) (fun env => truE (pers (evOr C il env)))
  | _, _, .nil, h => absurd rfl h
  | _, _, .cons (ie := ie) (il := []) h .nil, _ => by
    refine ⟨((je_one h.je.kept).eq fun env => by simp only [evOr] <;> rfl).qq fun z => by simpa [quiets] using z, ?_⟩
    have := jw_or1 (pos := pos) (h.jt.qq (q' := quiets [ie]) fun z => by simpa [quiets] using z)
    refine fun H0 => PW.weak (this H0) fun σ H Q ⟨G, env, r, R, e, qq⟩ => ⟨G, env, r, R, ?_, qq⟩
    rw [← e]
    dsimp only
    simp only [evOr]
    cases ev C ie env with
    | none => rfl
    | some x => rfl
  | _, _, .cons (ie := ie) (il := i2 :: il) h (.cons h2 t), _ => by
    obtain ⟨k1, k2⟩ := (OkEs.cons h2 t).or (by simp)
    refine ⟨((je_or2 h.je k1).eq fun env => by simp only [evOr] <;> rfl).qq fun z => by simpa only [quiets] using z, ?_⟩
    have := jw_or2 (pos := pos) h.jt k2
    refine fun H0 => PW.weak (this H0) fun σ H Q ⟨G, env, r, R, e, qq⟩ => ⟨G, env, r, R, ?_, fun H' G' S => qq H' G' (S.to fun z => by simpa only [quiets] using z)⟩
    rw [← e]
    dsimp only
    simp only [evOr]
    cases ev C ie env with
    | none => rfl
    | some x =>
      obtain ⟨d, own, env1⟩ := x
      simp only [pers, truE]
      cases hk : truV d with
      | none => rfl
      | some k => cases k <;> simp [pers, truE, hk]
theorem ok_var {N : List Str} {sc : Scope} {T : Tab} {i : Nat} {x : Str} (O : OkX N sc T C X) (h : visB N sc i x = true) : OkE X C (.Name x p) (.var i) := by
  obtain ⟨h1, h2, h3, h4⟩ := visB_ok h
  rw [← O.nm] at h1
  rw [← O.sc] at h2
  have j := je_var (pos := p) h1 h2 h3 h4 C
  have jr := jr_var (pos := p) h1 h2 h3 h4
  exact ⟨fun x p z => (nomatch z), j.qq fun _ => rfl, (show JR X (.Name x p) true (rdOf (.var i) (ev C (.var i))) from jr.eq fun env => rfl), (je_take (pos := p) h1 h2 h3 h4).qq fun _ => rfl, (jt_val j.r fun _ => rfl).qq fun _ => rfl, ((jt_val jr fun _ => rfl).eq fun env => rfl).qq fun _ => rfl, fun i' z => by cases z; exact ⟨x, p, rfl, h1, h2, h3, h4⟩⟩
theorem ok_glb {N : List Str} {sc : Scope} {T : Tab} {x : Str} {d : PyData} (O : OkX N sc T C X) (hg : glB sc x = true) (hd : (x == ("__debug__" : Str)) = false) (hc : (T.cst.any fun c => decide (c.1 = x) && atEq c.2 d) = true) : OkE X C (.Name x p) (.glb x d) := by
  obtain ⟨c, hm, h⟩ := List.any_eq_true.1 hc
  simp only [Bool.and_eq_true, decide_eq_true_eq] at h
  obtain ⟨rfl, h2⟩ := h
  obtain rfl := atEq_ok h2
  obtain ⟨v, u, e1, e2, e3⟩ := O.cst c hm
  have g : Gl X c.1 := by
    unfold Gl Env.kindOf
    rw [O.sc]
    exact of_decide_eq_true hg
  exact OkE.of (fun i z => nomatch z) (fun x p z => nomatch z) (fun _ => rfl) (((je_cst (pe_glob (pos := p) g e1 e2 hd) e3).eq fun env => by simp only [ev]).qq fun _ => rfl)
theorem ok_bop {o : BOp} (ha : OkE X C a ia) (hb : OkE X C b ib) : OkE X C (.BinOp a (opB o) b pos) (.bop o ia ib) :=
  OkE.of (fun i z => nomatch z) (fun x p z => nomatch z) (fun _ => rfl) (((je_two (ops_b o) (fun r ta tb h1 h2 h3 => pe_op h1 h2 h3) ha.jf hb.jr).eq fun env => by simp only [ev] <;> rfl).qq fun z => by simpa only [quiet] using z)
theorem ok_cmp (hu : X.A.units + 66 < cLine) {o : COp} (hm : behindInMarks (opC o) b = false) (ha : OkE X C a ia) (hb : OkE X C b ib) : OkE X C (.Compare a [opC o] [b] pos) (.cmp o ia ib) := by
  refine OkE.ofT (fun i z => nomatch z) (fun x p z => nomatch z) ((je_cmp (cmp_s hu o) hm ha.jf hb.jr).qq fun z => by simpa only [quiet] using z) (((jt_cmp (pos := pos) (cmp_s hu o) hm (ha.jf (q2 := quiet ib)) hb.jr).eq fun env => ?_).qq fun z => by simpa only [quiet] using z)
  simp only [ev]
  cases fstOf (quiet ib) ia (ev C ia) env with
  | none => rfl
  | some x =>
    obtain ⟨x, env1⟩ := x
    dsimp only
    cases rdOf ib (ev C ib) env1 with
    | none => rfl
    | some y =>
      obtain ⟨y, env2⟩ := y
      dsimp only
      cases copV o x y with
      | none => rfl
      | some z => rfl
theorem ok_chn (hu : X.A.units + 66 < cLine) {o o' : COp} (hm : lastMarks [opC o, opC o'] [b, c] = false) (ha : OkE X C a ia) (hb : OkE X C b ib) (hc : OkE X C c ic) : OkE X C (.Compare a [opC o, opC o'] [b, c] pos) (.chn o o' ia ib ic) :=
  OkE.ofT (fun i z => nomatch z) (fun x p z => nomatch z) ((je_chn (cmp_s hu o) (cmp_s hu o') hm ha.jf hb.jf hc.jr).qq fun z => by simpa only [quiet] using z) ((jt_chn (cmp_s hu o) (cmp_s hu o') hm ha.jf hb.jf hc.jr).qq fun z => by simpa only [quiet] using z)
theorem ok_nt (ha : OkE X C a ia) : OkE X C (.UnaryOp .Not a pos) (.nt ia) := by
  refine OkE.ofT (fun i z => nomatch z) (fun x p z => nomatch z) (((je_not (pos := pos) ha.jr).eq fun env => ?_).qq fun z => by simpa only [quiet] using z) (((jt_not (pos := pos) ha.tt).eq fun env => ?_).qq fun z => by simpa only [quiet] using z)
  · simp only [ev]
    rfl
  · simp only [ev]
    cases tst ia (ev C ia) env with
    | none => rfl
    | some x => rfl
theorem ok_neg (ha : OkE X C a ia) : OkE X C (.UnaryOp .USub a pos) (.neg ia) :=
  OkE.of (fun i z => nomatch z) (fun x p z => nomatch z) (fun _ => rfl) ((je_neg ha.je).qq fun z => by simpa only [quiet] using z)
theorem ok_and (h : OkEs X C es il) (hn : il ≠ []) : OkE X C (.BoolOp .And es pos) (.andv il) :=
  OkE.ofT (fun i z => nomatch z) (fun x p z => nomatch z) (((h.and hn).1.eq fun env => by simp only [ev]).qq fun z => by simpa only [quiet] using z) (((h.and hn).2.t.eq fun env => by simp only [ev]).qq fun z => by simpa only [quiet] using z)
theorem ok_or (h : OkEs X C es il) (hn : il ≠ []) : OkE X C (.BoolOp .Or es pos) (.orv il) :=
  OkE.ofT (fun i z => nomatch z) (fun x p z => nomatch z) (((h.or hn).1.eq fun env => by simp only [ev]).qq fun z => by simpa only [quiet] using z) (((h.or hn).2.t.eq fun env => by simp only [ev]).qq fun z => by simpa only [quiet] using z)
theorem ok_ifx (hc : OkE X C c ic) (ha : OkE X C a ia) (hb : OkE X C b ib) : OkE X C (.IfExp c a b pos) (.ifx ic ia ib) := by
  refine OkE.ofT (fun i z => nomatch z) (fun x p z => nomatch z) (((je_ifx (pos := pos) hc.tt ha.je hb.je).eq fun env => ?_).qq fun z => by simp only [quiet, Bool.and_eq_true] at z ⊢; obtain ⟨⟨z1, z2⟩, z3⟩ := z; exact ⟨⟨by assumption, by assumption⟩, by assumption⟩) (((jt_ifx (pos := pos) hc.tt ha.jt hb.jt).eq fun env => ?_).qq fun z => by simp only [quiet, Bool.and_eq_true] at z ⊢; obtain ⟨⟨z1, z2⟩, z3⟩ := z; exact ⟨⟨by assumption, by assumption⟩, by assumption⟩)
  · simp only [ev]
    rfl
  · simp only [ev]
    cases tst ic (ev C ic) env with
    | none => rfl
    | some x =>
      obtain ⟨k, env1⟩ := x
      cases k
      · dsimp only
        cases ev C ib env1 <;> rfl
      · dsimp only
        cases ev C ia env1 <;> rfl
theorem ok_call {N : List Str} {sc : Scope} {T : Tab} {f : Nat} {x : Str} {n : Nat} (O : OkX N sc T C X) (hg : glB sc x = true) (hf : FnS X C f x n) (h : OkEs X C es il) (hn : il ≠ []) : OkE X C (.Call (.Name x p) es [] pos) (.call f il) := by
  obtain ⟨hlen, k, ad, fd, ps, F, hr, hm, hk, hb, hdb⟩ := hf
  have g : Gl X x := by
    unfold Gl Env.kindOf
    rw [O.sc]
    exact of_decide_eq_true hg
  cases h with
  | nil => exact absurd rfl hn
  | cons h t =>
    refine OkE.of (fun i z => nomatch z) (fun x p z => nomatch z) (fun _ => rfl) ((je_call hlen (fun t' ht => ?_) (OkEs.cons h t).jargs).qq fun z => by simp [quiet] at z)
    exact pe_fnG F hr O.gd g hm hk hb ht (OkEs.cons h t).ns hdb
end
end VI
set_option maxRecDepth 100000
set_option maxHeartbeats 4000000
/-! VI: what the checker lets by, on. -/
namespace VI
open PySem PySem.Spec PyProof.Rows L2
section
variable {X : Cx} {C : CallF} {e a b c o tg it elt : Expr} {es ifs : List Expr} {pos p apos cpos : Pos} {ia ib ic : IE} {il : List IE} {N : List Str} {sc : Scope} {T : Tab}
theorem ok_bi {bi : BI} {x : Str} {F : Value} (O : OkX N sc T C X) (hb : biF bi = some (x, F)) (hg : bltB T sc x = true) (ha : OkE X C a ia) : OkE X C (.Call (.Name x p) [a] [] pos) (.bi bi ia) := by
  obtain ⟨g1, g2⟩ := bltB_ok O hg
  obtain ⟨cs, b1, b2, b3, b4⟩ := cs_biV O.calm O.gd O.un hb
  refine OkE.of (fun i z => nomatch z) (fun x p z => nomatch z) (fun _ => rfl) (((je_call1 cs (fun r t h1 h2 => pe_callF b4 h1 g1 g2 b1 b2 b3 h2 (star_cons ha.ns) rfl) (star_cons ha.ns) ha.jr).eq fun env => by simp only [ev] <;> rfl).qq fun z => by simpa only [quiet] using z)
theorem ok_inst {t : String} (O : OkX N sc T C X) (hg : bltB T sc "isinstance" = true) (ha : OkE X C a ia) (ht : tyOk t = true) (hn : NS b) (hb : PE X b (tC (.ty t))) : OkE X C (.Call (.Name "isinstance" p) [a, b] [] pos) (.inst ia [t]) := by
  obtain ⟨g1, g2⟩ := bltB_ok O hg
  refine OkE.of (fun i z => nomatch z) (fun x p z => nomatch z) (fun _ => rfl) (((je_inst1 ht (fun tt h => pe_callB call_isi g1 g2 (by decide +kernel) h (by decide) (by decide) (star_cons ha.ns) (star_plain fun e he => by simp at he; rw [he]; exact hn)) (by rw [star_cons ha.ns]) (by rw [star_cons hn]) hb ha.jr).eq fun env => by simp only [ev] <;> rfl).qq fun z => by simpa only [quiet] using z)
theorem ok_instT {ts : List String} {es : List Expr} {k : Nat} {p2 : Pos} (O : OkX N sc T C X) (hg : bltB T sc "isinstance" = true) (ha : OkE X C a ia) (ht : ts.all tyOk = true) (hz : ts.length ≤ sizeLine) (hn : ∀ e ∈ es, NS e) (hl : es.length = ts.length) (hb : ∀ (i : Nat) (t : String), ts[i]? = some t → ∃ e, es[i]? = some e ∧ PE X e (tC (.ty t))) : OkE X C (.Call (.Name "isinstance" p) [a, .Tuple es k p2] [] pos) (.inst ia ts) := by
  obtain ⟨g1, g2⟩ := bltB_ok O hg
  have hnt : NS (.Tuple es k p2) := fun _ _ z => nomatch z
  refine OkE.of (fun i z => nomatch z) (fun x p z => nomatch z) (fun _ => rfl) (((je_instT ht hz rfl (fun tt h => pe_callB call_isiT g1 g2 (by decide +kernel) h (by decide) (by decide) (star_cons ha.ns) (star_plain fun e he => by simp at he; rw [he]; exact hnt)) (by rw [star_cons ha.ns]) (by rw [star_cons hnt]) (pa_types hn hb hl) ha.jr).eq fun env => by simp only [ev] <;> rfl).qq fun z => by simpa only [quiet] using z)
theorem je_bi2 {q : Bool} {bi : BI} {g : Int → Int → Int} {r : List V → Hp → VK → Prop} (hr : ∀ (H : Hp) (Q : VK) (i j : Int), Q (.int (g i j)) H → r [.int i, .int j] H Q) (hpe : ∀ t, PA X [a, b] t → PE X e (tCB r t)) (hbv : ∀ x y z, bi2V bi x y = some z → ∃ i j : Int, x = .int i ∧ y = .int j ∧ z = .int (g i j)) (h : JPs X [a, b] q (evs C [ia, ib])) : JE X e q (ev C (.bi2 bi ia ib)) := fun H0 =>
  PE.weak (hpe _ (h H0)) fun σ H Q ⟨G, env, res, R, e, qq⟩ => by
    simp only [ev] at e
    split at e
    · rename_i x env1 ea
      split at e
      · rename_i y env2 eb
        split at e
        · rename_i z hz
          cases e
          obtain ⟨i, j, rfl, rfl, rfl⟩ := hbv _ _ _ hz
          have h1 : evs C [ia, ib] env = some ([.int i, .int j], env2) := by
            unfold pers at ea eb
            split at ea
            · rename_i o1 e1
              cases ea
              split at eb
              · rename_i o2 e2
                cases eb
                simp only [evs, e1, e2]
              · cases eb
            · cases ea
          refine ⟨G, env, _, R, h1, fun vs H1 G1 S1 p1 => ?_⟩
          cases p1 with
          | cons p1 t1 =>
            cases t1 with
            | cons p2 t2 =>
              cases t2
              cases p1
              cases p2
              exact hr _ _ _ _ (qq _ H1 ⟨G1, S1, .pr (.int _)⟩)
        · cases e
      · cases e
    · cases e
theorem bi2_max {x y z : PyData} (h : bi2V .max2 x y = some z) : ∃ i j : Int, x = .int i ∧ y = .int j ∧ z = .int (if j > i then j else i) := by
  unfold bi2V at h
  split at h
  · rename_i i j _
    cases h
    exact ⟨_, _, rfl, rfl, rfl⟩
  · rename_i e
    cases e
  · cases h
theorem bi2_min {x y z : PyData} (h : bi2V .min2 x y = some z) : ∃ i j : Int, x = .int i ∧ y = .int j ∧ z = .int (if j < i then j else i) := by
  unfold bi2V at h
  split at h
  · rename_i e
    cases e
  · cases h
    exact ⟨_, _, rfl, rfl, rfl⟩
  · cases h
theorem ok_max2 (O : OkX N sc T C X) (hg : bltB T sc "max" = true) (ha : OkE X C a ia) (hb : OkE X C b ib) : OkE X C (.Call (.Name "max" p) [a, b] [] pos) (.bi2 .max2 ia ib) := by
  obtain ⟨g1, g2⟩ := bltB_ok O hg
  exact OkE.of (fun i z => nomatch z) (fun x p z => nomatch z) (fun _ => rfl) ((je_bi2 (g := fun i j => if j > i then j else i) (fun H Q i j h => ⟨i, j, rfl, h⟩) (fun t h => pe_callB (call_max2 O.calm) g1 g2 (by decide +kernel) h (by decide) (by decide) (star_cons ha.ns) (star_plain fun e he => by simp at he; rw [he]; exact hb.ns)) (fun x y z h => bi2_max h) (OkEs.cons ha (.cons hb .nil)).jps).qq fun z => by simpa [quiet, quiets] using z)
theorem ok_min2 (O : OkX N sc T C X) (hg : bltB T sc "min" = true) (ha : OkE X C a ia) (hb : OkE X C b ib) : OkE X C (.Call (.Name "min" p) [a, b] [] pos) (.bi2 .min2 ia ib) := by
  obtain ⟨g1, g2⟩ := bltB_ok O hg
  exact OkE.of (fun i z => nomatch z) (fun x p z => nomatch z) (fun _ => rfl) ((je_bi2 (g := fun i j => if j < i then j else i) (fun H Q i j h => ⟨i, j, rfl, h⟩) (fun t h => pe_callB (call_min2 O.calm) g1 g2 (by decide +kernel) h (by decide) (by decide) (star_cons ha.ns) (star_plain fun e he => by simp at he; rw [he]; exact hb.ns)) (fun x y z h => bi2_min h) (OkEs.cons ha (.cons hb .nil)).jps).qq fun z => by simpa [quiet, quiets] using z)
/-- len(set(xs)), xs a list of ints -/
theorem firstMet_nset (ns : List Int) : (PyProof.Rows.firstMet (fun i => ns.getD i 0) ns.length).length = nset ns := by
  have e : (List.range ns.length).map (fun i => ns.getD i 0) = ns := by
    apply List.ext_getElem
    · simp
    · intro i h1 h2
      simp [List.getElem?_eq_getElem h2]
  unfold PyProof.Rows.firstMet nset
  rw [e]
  rfl
theorem nset_le (ns : List Int) : nset ns ≤ ns.length := by
  rw [← firstMet_nset]
  exact PyProof.Rows.firstMet_length_le _ _
def tNset (K : PySem.W.Frag) (ta : TE) : TE := fun σ H Q => ta σ H fun x H1 => ∃ (l : Addr) (ns : List Int), x = .ref l ∧ SqL K H1 l (ns.map V.int) ∧ ns.length ≤ 4000 ∧ Q (.int (nset ns : Nat)) H1
theorem pe_nset {ta : TE} {p p2 q pos : Pos} (hg : Gl X "len") (hm : X.mg "len" = none) (hg2 : Gl X "set") (hm2 : X.mg "set" = none) (ha : PE X a ta) (hc : X.calm = true)
    (na : starEach [a] X.env = (false, eval a X.env) :: starEach [] X.env) : PE X (.Call (.Name "len" p) [.Call (.Name "set" p2) [a] [] q] [] pos) (tNset X.K ta) := by
  refine ⟨fun pins s σ H Q I h => ?_⟩
  refine Call_ (ld_blt I hg hm boot_len ?_)
  refine PyProof.Rows.callWith_builtin1 (PyProof.Rows.args_cons ?_ rfl) rfl rfl
  refine Call_ (ld_blt I hg2 hm2 boot_set ?_)
  refine PyProof.Rows.callWith_type1 (PyProof.Rows.args_cons (thn (ha.run pins s σ H _ I h) fun v s1 ⟨x, H1, I1, r1, q1⟩ => PyProof.Rows.args_nil ?_) na) na rfl
  obtain ⟨l, ns, rfl, hq, hl, q1⟩ := q1
  cases r1
  obtain ⟨its, r, pl, hz⟩ := I1.list hq
  have hlen : its.toArray.size = ns.length := by rw [List.size_toArray, ← r.length, List.length_map]
  refine call_set_list (I1.ok.hd hc) pl.isList (by simpa using RZ.intsAre_vals r) (by rw [hlen]; unfold scanBound; omega) fun h' tk hS hk => ?_
  refine PyProof.Rows.args_nil ?_
  rw [hlen, firstMet_nset ns] at hS
  have hle := nset_le ns
  obtain ⟨o, es, ep, t, ho, hex, hd, _, _, _, hf, hn⟩ := hS
  have I2 : Inv X pins σ H1 { s1 with heap := h', toks := tk } := I1.kept fun b o e => hk b o (Heap.lt_size e) e
  exact call_len_set ho hex hd hf (by rw [hn] <;> omega) ⟨.int (nset ns : Nat), H1, I2.tok _, ⟨_, by rw [hn]⟩, q1⟩
theorem je_nset {q : Bool} {fa : En → Option (PyData × En)} (hpe : ∀ ta, PE X a ta → PE X e (tNset X.K ta)) (ha : JR X a q fa) : JE X e q (fun env => match fa env with
    | some (x, env1) => (match biV .set x with
      | some (d, own) => some (d, own, env1)
      | none => none)
    | none => none) := fun H0 =>
  PE.weak (hpe _ (ha H0)) fun σ H Q ⟨G, env, res, R, e, qq⟩ => by
    dsimp only at e
    split at e
    · rename_i d1 env1 ea
      split at e
      · rename_i z own eg
        cases e
        refine ⟨G, env, _, R, ea, fun v H1 G1 S r1 => ?_⟩
        cases d1 <;> simp only [biV] at eg <;> first | cases eg | skip
        split at eg
        · rename_i l hb
          split at eg
          · rename_i hz0
            cases eg
            obtain ⟨a, vs, rfl, hl, hz, hr⟩ := r1.list S.rel.le
            rw [hr.of_ints hb] at hl
            exact ⟨a, l, rfl, hl, hz0, qq _ H1 ⟨G1, S, .pr (.int _)⟩⟩
          · cases eg
        · cases eg
      · cases e
    · cases e
theorem ok_nset {p2 p3 : Pos} (O : OkX N sc T C X) (hg : bltB T sc "len" = true) (hg2 : bltB T sc "set" = true) (ha : OkE X C a ia) : OkE X C (.Call (.Name "len" p) [.Call (.Name "set" p2) [a] [] p3] [] pos) (.bi .set ia) := by
  obtain ⟨g1, g2⟩ := bltB_ok O hg
  obtain ⟨g3, g4⟩ := bltB_ok O hg2
  exact OkE.of (fun i z => nomatch z) (fun x p z => nomatch z) (fun _ => rfl) (((je_nset (fun ta h => pe_nset g1 g2 g3 g4 h O.calm (star_cons ha.ns)) ha.jr).eq fun env => by simp only [ev] <;> rfl).qq fun z => by simpa only [quiet] using z)
theorem ok_tup {k : Nat} (h : OkEs X C es il) : OkE X C (.Tuple es k pos) (.tup il) :=
  OkE.of (fun i z => nomatch z) (fun x p z => nomatch z) (fun _ => rfl) ((je_tup h.jps).qq fun z => by simpa only [quiet] using z)
theorem ok_lst (h : OkEs X C es il) : OkE X C (.List es pos) (.lst il) :=
  OkE.of (fun i z => nomatch z) (fun x p z => nomatch z) (fun _ => rfl) ((je_lst h.jps).qq fun z => by simpa only [quiet] using z)
theorem plain_ix (h : plB b = true) : PlainIx b ∧ NoSl b := by
  cases b <;> first | exact ⟨fun _ _ => rfl, fun _ _ => rfl⟩ | cases h
theorem ok_ix (O : OkX N sc T C X) (hp : plB b = true) (ha : OkE X C a ia) (hb : OkE X C b ib) : OkE X C (.Subscript a b pos) (.ix ia ib) := by
  obtain ⟨p1, p2⟩ := plain_ix hp
  have hu := O.un
  cases hl : lateOf (quiet ib) ia with
  | none => exact OkE.of (fun i z => nomatch z) (fun x p z => nomatch z) (fun _ => rfl) (((je_ix (by omega) p1 p2 ha.jf hb.je.p).eq fun env => by simp only [ev, hl] <;> rfl).qq fun z => by simpa only [quiet] using z)
  | some i =>
    obtain ⟨rfl, hq⟩ : ia = .var i ∧ quiet ib = false := by
      unfold lateOf at hl
      split at hl
      · split at hl
        · cases hl
        · rename_i h
          cases hl
          exact ⟨rfl, by simpa using h⟩
      · cases hl
    obtain ⟨x, p, rfl, h1, h2, h3, h4⟩ := ha.vr i rfl
    exact OkE.of (fun i z => nomatch z) (fun x p z => nomatch z) (fun _ => rfl) (((je_ix_late (by omega) p1 p2 (pe_var h1 h2 h3 h4) hb.je.p).eq fun env => by simp only [ev, hl] <;> rfl).qq fun z => by simp [quiet, hq] at z)
/-- an end of a slice -/
def OkO (X : Cx) (C : CallF) : Option Expr → Option IE → Prop
  | none, none => True
  | some e, some ie => OkE X C e ie
  | _, _ => False
theorem OkO.jo : ∀ {e : Option Expr} {ie : Option IE}, OkO X C e ie → JO X (quietO ie) e (evO C ie)
  | none, none, _ => by
    have : evO C none = fun env => some (none, env) := by funext env; simp only [evO]
    rw [this]
    exact jo_none
  | some e, some ie, h => by
    have := jo_some (OkE.je h)
    refine fun H0 => PO.weak (this H0) fun σ H Q ⟨G, env, r, R, e, qq⟩ => ⟨G, env, r, R, ?_, qq⟩
    rw [← e]
    first | (simp only [evO]; done) | (simp only [evO]; rfl)
  | none, some _, h => h.elim
  | some _, none, h => h.elim
theorem quiet_sl {a : IE} {lo hi : Option IE} (h : quiet (.sl a lo hi) = true) : (quiet a && (quietO lo && quietO hi)) = true := by
  cases lo <;> cases hi <;> simp only [quiet, Bool.and_eq_true, quietO] at h ⊢
  · exact ⟨h.1.1, h.1.2, h.2⟩
  · exact ⟨h.1.1, h.1.2, h.2⟩
  · exact ⟨h.1.1, h.1.2, h.2⟩
  · exact ⟨h.1.1, h.1.2, h.2⟩
theorem ok_sl {lo hi : Option Expr} {il ih : Option IE} {p2 : Pos} (ha : OkE X C a ia) (hl : OkO X C lo il) (hh : OkO X C hi ih) : OkE X C (.Subscript a (.Slice lo hi none p2) pos) (.sl ia il ih) :=
  OkE.of (fun i z => nomatch z) (fun x p z => nomatch z) (fun _ => rfl) (((je_sl (ha.jf (q2 := quietO il && quietO ih)) hl.jo hh.jo).eq fun env => by simp only [ev] <;> rfl).qq fun z => quiet_sl z)
theorem ok_rev {k : Nat} {p2 p3 p4 : Pos} (ha : OkE X C a ia) : OkE X C (.Subscript a (.Slice none none (some (.UnaryOp .USub (.Constant (.int 1) k p4) p3)) p2) pos) (.rev ia) :=
  OkE.of (fun i z => nomatch z) (fun x p z => nomatch z) (fun _ => rfl) (((je_rev ha.jr).eq fun env => by simp only [ev] <;> rfl).qq fun z => by simpa only [quiet] using z)
theorem ok_mu {m : MU} {i : Nat} {x at' : Str} (O : OkX N sc T C X) (hx : visB N sc i x = true) (hm : muN m = some at') (hl : (apos.endLine == cpos.line) = true) (h : OkEs X C es il) (hlen : il.length < 29) : OkE X C (.Call (.Attribute (.Name x p) at' apos) es [] cpos) (.mu m i il) := by
  obtain ⟨h1, h2, h3, h4⟩ := visB_ok hx
  rw [← O.nm] at h1
  rw [← O.sc] at h2
  have pv := pe_var (X := X) (pos := p) h1 h2 h3 h4
  have go : ∀ {id : String}, MuS X id (muV m) → PySem.Slot "list" at' id → typeOf (.builtin id) = pure (.type "method_descriptor") → OkE X C (.Call (.Attribute (.Name x p) at' apos) es [] cpos) (.mu m i il) := fun {id} hS slot hty => by
    refine OkE.of (fun i z => nomatch z) (fun x p z => nomatch z) (fun _ => rfl) ((je_mu (q := quiets il) hS rfl fun r H0 hr => ?_).qq fun z => by simp [quiet] at z)
    have hps := h.jps
    have hns := h.ns
    cases h with
    | nil =>
      refine PE.weak (pe_bm0 F.plainAttrs_list slot hty hr pv rfl hl) fun σ H Q ⟨v, hv, ht, G, env, rr, R, e, qq⟩ => ⟨v, hv, ht, ?_⟩
      simp only [evs] at e
      cases e
      exact qq [] H G (SteE.refl R) .nil
    | cons hh ht =>
      have l1 := (OkEs.cons hh ht).len
      refine pe_bm F.plainAttrs_list slot hty hr pv (hps H0) rfl (star_few hns (by omega)) hl (star_cons hh.ns) (star_plain fun e he => hns e (List.mem_cons_of_mem _ he))
  cases m <;> simp only [muN] at hm <;> cases hm
  · exact go mu_append F.slot_list_append F.type_list_append
  · exact go mu_extend F.slot_list_extend F.type_list_extend
  · exact go mu_pop F.slot_list_pop F.type_list_pop
  · exact go mu_reverse F.slot_list_reverse F.type_list_reverse
  · exact go mu_insert F.slot_list_insert F.type_list_insert
  · exact go mu_clear F.slot_list_clear F.type_list_clear
/-- pairs of a display -/
inductive OkD (X : Cx) (C : CallF) : List IE → List (Option Expr) → List Expr → Prop
  | nil : OkD X C [] [] []
  | cons {k v : Expr} {ik iv : IE} {il : List IE} {ks : List (Option Expr)} {vs : List Expr} : OkE X C k ik → OkE X C v iv → OkD X C il ks vs → OkD X C (ik :: iv :: il) (some k :: ks) (v :: vs)
theorem OkD.facts : ∀ {il : List IE} {ks : List (Option Expr)} {vs : List Expr}, OkD X C il ks vs → il.length = 2 * ks.length ∧ vs.length = ks.length ∧ ks.all (·.isSome) = true ∧
    ∀ (i : Nat) k v, ks[i]? = some (some k) → vs[i]? = some v → ∃ ik iv, il[2 * i]? = some ik ∧ il[2 * i + 1]? = some iv ∧ JE X k (quiet ik) (ev C ik) ∧ JE X v (quiet iv) (ev C iv)
  | _, _, _, .nil => ⟨rfl, rfl, rfl, fun i k v h => by simp at h⟩
  | _, _, _, .cons h1 h2 t => by
    obtain ⟨e1, e2, e3, e4⟩ := t.facts
    refine ⟨by simp [e1]; omega, by simp [e2], by simp at e3 ⊢; exact e3, fun i k v k1 k2 => ?_⟩
    cases i with
    | zero =>
      simp at k1 k2
      subst k1
      subst k2
      exact ⟨_, _, rfl, rfl, h1.je, h2.je⟩
    | succ i =>
      obtain ⟨ik, iv, m1, m2, m3⟩ := e4 i k v (by simpa using k1) (by simpa using k2)
      refine ⟨ik, iv, ?_, ?_, m3⟩
      · rw [show 2 * (i + 1) = 2 * i + 1 + 1 by omega]; simpa using m1
      · rw [show 2 * (i + 1) + 1 = 2 * i + 1 + 1 + 1 by omega]; simpa using m2
theorem ok_dct {ks : List (Option Expr)} {vs : List Expr} (h : OkD X C il ks vs) (h0 : ks.isEmpty = false) (h15 : ks.length ≤ 15) : OkE X C (.Dict ks vs pos) (.dct il) := by
  obtain ⟨e1, e2, e3, e4⟩ := h.facts
  exact OkE.of (fun i z => nomatch z) (fun x p z => nomatch z) (fun _ => rfl) ((je_dct e1 e2 (fun z => by rw [z] at h0; cases h0) h15 e3 e4).qq fun z => by simp [quiet] at z)
theorem ok_dct0 : OkE X C (.Dict [] [] pos) (.dct []) :=
  OkE.of (fun i z => nomatch z) (fun x p z => nomatch z) (fun _ => rfl) ((je_dct0.eq fun env => by simp only [ev, evs, pairUp]).qq fun z => by simp [quiet] at z)
theorem ok_lrg1 {tp : Bool} {x : Str} {p2 pos2 : Pos} (O : OkX N sc T C X) (hx : x = if tp then "tuple" else "list") (hg : bltB T sc x = true) (hg2 : bltB T sc "range" = true) (ha : OkE X C a ia) : OkE X C (.Call (.Name x p) [.Call (.Name "range" p2) [a] [] pos2] [] pos) (.lrg1 tp ia) := by
  obtain ⟨g1, g2⟩ := bltB_ok O hg
  obtain ⟨g3, g4⟩ := bltB_ok O hg2
  refine OkE.of (fun i z => nomatch z) (fun x p z => nomatch z) (fun _ => rfl) (((je_lrg1 O.calm hx g1 g2 g3 g4 ha.ns ha.jr).eq fun env => by simp only [ev] <;> rfl).qq fun z => by simpa only [quiet] using z)
theorem ok_lrg2 {tp : Bool} {x : Str} {p2 pos2 : Pos} (O : OkX N sc T C X) (hx : x = if tp then "tuple" else "list") (hg : bltB T sc x = true) (hg2 : bltB T sc "range" = true) (ha : OkE X C a ia) (hb : OkE X C b ib) : OkE X C (.Call (.Name x p) [.Call (.Name "range" p2) [a, b] [] pos2] [] pos) (.lrg2 tp ia ib) := by
  obtain ⟨g1, g2⟩ := bltB_ok O hg
  obtain ⟨g3, g4⟩ := bltB_ok O hg2
  refine OkE.of (fun i z => nomatch z) (fun x p z => nomatch z) (fun _ => rfl) (((je_lrg2 O.calm hx g1 g2 g3 g4 ha.ns hb.ns (ha.jf (q2 := quiet ib)) hb.jr).eq fun env => by simp only [ev] <;> rfl).qq fun z => by simpa only [quiet] using z)
theorem base_ok {at' : Str} {env : Env} {whole : Sem Value} (h : baseB o = true) : attributeBase o at' env whole = whole := by
  unfold attributeBase
  split
  · simp [baseB] at h
  · rfl
theorem quiet_me {m : ME} {r : IE} {l : List IE} {q : Bool} (e : q = quiets l) (h : quiet (.me m r l) = true) : (quiet r && q) = true := by
  subst e
  simpa only [quiet] using h
theorem ok_get1 {k : Expr} {ir ik : IE} (O : OkX N sc T C X) (hb : baseB o = true) (hl : (apos.endLine == cpos.line) = true) (ho : OkE X C o ir) (hk : OkE X C k ik) : OkE X C (.Call (.Attribute o "get" apos) [k] [] cpos) (.me .get ir [ik]) := by
  have hu := O.un
  have e1 : quiets [ik] = quiet ik := by simp [quiets]
  refine OkE.of (fun i z => nomatch z) (fun x p z => nomatch z) (fun _ => rfl) (((je_get1 (by omega) (ho.jf (q2 := quiet ik)) hk.je.p (m1_of (base_ok hb) hk.ns hl)).eq fun env => ?_).qq fun z => quiet_me e1.symm z)
  simp only [ev, evs, e1]
  cases fstOf (quiet ik) ir (ev C ir) env with
  | none => rfl
  | some p1 =>
    obtain ⟨x, env1⟩ := p1
    dsimp only
    cases ev C ik env1 with
    | none => rfl
    | some p2 =>
      obtain ⟨y, _, env2⟩ := p2
      first
        | (dsimp only [pers]; done)
        | (dsimp only [pers]; cases meV .get x [y] <;> rfl)
        | (cases meV .get x [y] <;> rfl)
theorem ok_get2 {k d : Expr} {ir ik id : IE} (O : OkX N sc T C X) (hb : baseB o = true) (hl : (apos.endLine == cpos.line) = true) (ho : OkE X C o ir) (hk : OkE X C k ik) (hd : OkE X C d id) : OkE X C (.Call (.Attribute o "get" apos) [k, d] [] cpos) (.me .get ir [ik, id]) := by
  have hu := O.un
  have e1 : quiets [ik, id] = (quiet ik && quiet id) := by simp [quiets]
  refine OkE.of (fun i z => nomatch z) (fun x p z => nomatch z) (fun _ => rfl) (((je_get2 (by omega) (ho.jf (q2 := quiet ik && quiet id)) hk.je.p hd.je.p (m2_of (base_ok hb) hk.ns hd.ns hl)).eq fun env => ?_).qq fun z => quiet_me e1.symm z)
  simp only [ev, evs, e1]
  cases fstOf (quiet ik && quiet id) ir (ev C ir) env with
  | none => rfl
  | some p1 =>
    obtain ⟨x, env1⟩ := p1
    dsimp only
    cases ev C ik env1 with
    | none => rfl
    | some p2 =>
      obtain ⟨y, _, env2⟩ := p2
      dsimp only [pers]
      cases ev C id env2 with
      | none => rfl
      | some p3 =>
        obtain ⟨z, _, env3⟩ := p3
        first
          | (dsimp only [pers]; done)
          | (dsimp only [pers]; cases meV .get x [y, z] <;> rfl)
          | (cases meV .get x [y, z] <;> rfl)
theorem ok_meL {m : ME} {at' : Str} {ir : IE} (O : OkX N sc T C X) (hm : (m = .count ∧ at' = "count") ∨ (m = .index ∧ at' = "index")) (hb : baseB o = true) (hl : (apos.endLine == cpos.line) = true) (ho : OkE X C o ir) (h : OkEs X C es il) (h1 : il.length = 1) : OkE X C (.Call (.Attribute o at' apos) es [] cpos) (.me m ir il) := by
  have hns := h.ns
  have hjs := h.jps
  have hlen := h.len
  cases es with
  | nil => simp at hlen; omega
  | cons e es =>
    refine OkE.of (fun i z => nomatch z) (fun x p z => nomatch z) (fun _ => rfl) (((je_meL O.un hm (ho.jf (q2 := quiets il)) hjs hns (by omega) (base_ok hb) hl).eq fun env => ?_).qq fun z => quiet_me rfl z)
    simp only [ev]
    try rfl
end
end VI
set_option maxRecDepth 100000
set_option maxHeartbeats 4000000
/-! VI: targets, loops' sources, comprehensions; the checker of expressions is right. -/
namespace VI
open PySem PySem.Spec PyProof.Rows L2
section
variable {X : Cx} {N : List Str} {p : Str → Bool}
theorem asg_tgs : ∀ {l : List Tgt} {es : List Expr}, chTgs N p l es = true → (assignEach es X.env).length = l.length ∧ (assignEach es X.env).findIdx? (·.1) = none
  | [], [], _ => ⟨rfl, rfl⟩
  | [], _ :: _, h => by simp [chTgs] at h
  | _ :: _, [], h => by simp [chTgs] at h
  | t :: l, e :: es, h => by
    simp only [chTgs, Bool.and_eq_true] at h
    obtain ⟨h1, h2⟩ := asg_tgs h.2
    have ne : ∀ x q, e ≠ .Starred x q := fun x q z => by
      subst z
      cases t <;> simp [chTg] at h
    have e1 : assignEach (e :: es) X.env = (false, assign e X.env) :: assignEach es X.env := by
      cases e <;> first | rfl | exact absurd rfl (ne _ _)
    rw [e1]
    refine ⟨by simp [h1], ?_⟩
    rw [List.findIdx?_cons]
    simp [h2]
mutual
theorem chTg_ok (hN : X.N = N) (nd : N.Nodup) (hc : X.calm = true) (hp : ∀ x, p x = true → Loc X.env.scope x ∧ (X.fn x = true ∨ X.env.scope.names.lookup x = some .local)) : ∀ {t : Tgt} {e : Expr}, chTg N p t e = true → JG X e (tgs t) (bind t)
  | .nm i, e, h => by
    simp only [chTg] at h
    split at h
    · rename_i x q
      simp only [Bool.and_eq_true, decide_eq_true_eq] at h
      obtain ⟨h1, h2⟩ := hp x h.2
      simp only [tgs]
      exact jg_name (by rw [hN]; exact nd) (by rw [hN]; exact h.1) h1 h2
    · cases h
  | .tp l, e, h => by
    simp only [chTg] at h
    split at h
    · rename_i es k q
      obtain ⟨h1, h2⟩ := asg_tgs (X := X) h
      simp only [tgs]
      exact jg_tup hc (chTgs_ok hN nd hc hp h) h1 h2
    · cases h
theorem chTgs_ok (hN : X.N = N) (nd : N.Nodup) (hc : X.calm = true) (hp : ∀ x, p x = true → Loc X.env.scope x ∧ (X.fn x = true ∨ X.env.scope.names.lookup x = some .local)) : ∀ {l : List Tgt} {es : List Expr}, chTgs N p l es = true → JGs X es (tgss l) (binds l)
  | [], [], h => by
    simp only [tgss]
    exact jgs_nil
  | [], _ :: _, h => by simp [chTgs] at h
  | _ :: _, [], h => by simp [chTgs] at h
  | t :: l, e :: es, h => by
    simp only [chTgs, Bool.and_eq_true] at h
    simp only [tgss]
    have ne : ∀ x q, e ≠ .Starred x q := fun x q z => by
      subst z
      cases t <;> simp [chTg] at h
    refine jgs_cons (chTg_ok hN nd hc hp h.1) (chTgs_ok hN nd hc hp h.2) ?_
    cases e <;> first | rfl | exact absurd rfl (ne _ _)
end
end
theorem locB_ok {sc : Scope} {x : Str} (h : locB sc x = true) : Loc sc x := by
  unfold locB at h
  split at h
  · rename_i z; exact .inl z
  · rename_i z; exact .inr z
  · cases h
section
variable {X : Cx} {C : CallF} {e a b c o tg it elt : Expr} {es ifs : List Expr} {pos p apos cpos : Pos} {ia ib ic ie : IE} {il cs : List IE} {N : List Str} {sc scope : Scope} {T : Tab} {t : Tgt} {ii : It}
theorem OkX.blk (O : OkX N sc T C X) (s : Shared) (H : Hp) (Ca : Addr) (cl : List (Str × Addr)) (fp : List Addr) : OkX N (relS scope sc) T C (X.blk s H scope (compEnvC scope cl Ca X.env) fp) :=
  ⟨O.nm, O.nd, by rw [← O.sc]; rfl, O.calm, O.un, O.gd, O.mgB, O.fns, O.cst⟩
theorem blkB_ok (O : OkX N sc T C X) (s : Shared) (H : Hp) (Ca : Addr) (cl : List (Str × Addr)) (fp : List Addr) (x : Str) (h : blkB sc scope x = true) :
    Loc (X.blk s H scope (compEnvC scope cl Ca X.env) fp).env.scope x ∧ ((X.blk s H scope (compEnvC scope cl Ca X.env) fp).fn x = true ∨ (X.blk s H scope (compEnvC scope cl Ca X.env) fp).env.scope.names.lookup x = some .local) := by
  have e := (O.blk (scope := scope) s H Ca cl fp).sc
  rw [e]
  unfold blkB at h
  split at h
  · rename_i z; exact ⟨.inl z, .inr z⟩
  · rename_i z
    refine ⟨.inr z, .inl ?_⟩
    show (scope.names.lookup x == some .cell) = true
    rw [of_decide_eq_true h]
    rfl
  · cases h
/-- a source -/
def OkIt (X : Cx) (C : CallF) (tg it : Expr) (ii : It) : Prop := ∃ q, JI2 X tg it q ii C
def OkIt3 (X : Cx) (C : CallF) (tg it : Expr) (ii : It) : Prop := ∃ q, JI3 X tg it q ii C
theorem OkIt.three {X : Cx} {C : CallF} {tg it : Expr} {ii : It} (h : OkIt X C tg it ii) (hn : ∀ env, hid2Of ii env = none) : OkIt3 X C tg it ii := let ⟨q, j⟩ := h; ⟨q, j.three hn⟩
inductive OkCs (X : Cx) (C : CallF) : List Expr → List IE → Prop
  | nil : OkCs X C [] []
  | one {e : Expr} {ie : IE} : OkE X C e ie → OkCs X C [e] [ie]
theorem OkCs.jts (h : OkCs X C ifs cs) : ∃ q, JTs X ifs q (evCs C cs) := by
  cases h with
  | nil => exact ⟨_, jts_nil C⟩
  | one h => exact ⟨_, jts_one h.tt⟩
theorem fold_ok {env : Env} (h : notSet it = true) : ∀ x, foldedSetIterable it env x = pure x := by
  intro x
  cases it <;> first | rfl | cases h
theorem own_snd {N : List Str} : ∀ l : List Nat, (l.map fun i => (N.getD i "", i)).map (·.2) = l
  | [] => rfl
  | i :: l => by
    rw [List.map_cons, List.map_cons, own_snd l]
/-- a comprehension's parts -/
structure LcP (X : Cx) (C : CallF) (N : List Str) (sc scope : Scope) (tg it : Expr) (ifs : List Expr) (elt : Expr) (t : Tgt) (ii : It) (cs : List IE) (ie : IE) : Prop where
  i : OkIt3 X C tg it ii
  s : notSet it = true
  k : blkC N sc scope ((tgs t).map fun i => (N.getD i "", i)) = true
  g : chTg N (blkB sc scope) t tg = true
  c : ∀ (s : Shared) (H : Hp) (Ca : Addr) (cl : List (Str × Addr)) (fp : List Addr), OkCs (X.blk s H scope (compEnvC scope cl Ca X.env) fp) C ifs cs
  e : ∀ (s : Shared) (H : Hp) (Ca : Addr) (cl : List (Str × Addr)) (fp : List Addr), OkE (X.blk s H scope (compEnvC scope cl Ca X.env) fp) C elt ie
theorem JTs.qq {q q' : Bool} {f : En → Option (Bool × En)} (h : JTs X ifs q f) (w : q' = true → q = true) : JTs X ifs q' f := fun H0 => PTs.weak (h H0) fun σ H Q ⟨G, env, r, R, e, qq⟩ => ⟨G, env, r, R, e, fun H' G' S => qq H' G' (S.to w)⟩
theorem LcP.blkJ (O : OkX N sc T C X) (h : LcP X C N sc scope tg it ifs elt t ii cs ie) : BlkJ X C tg ifs elt scope t cs ie false false where
  g s H Ca cl fp := chTg_ok (X := X.blk s H scope (compEnvC scope cl Ca X.env) fp) O.nm O.nd O.calm (blkB_ok O s H Ca cl fp) h.g
  c s H Ca cl fp := let ⟨q, j⟩ := (h.c s H Ca cl fp).jts; j.qq fun z => nomatch z
  e s H Ca cl fp := (h.e s H Ca cl fp).je.qq fun z => nomatch z
theorem LcP.blk (O : OkX N sc T C X) (h : LcP X C N sc scope tg it ifs elt t ii cs ie) : BlkOk X.N X.env.scope scope ((tgs t).map fun i => (N.getD i "", i)) := by
  rw [O.nm, O.sc]
  exact blkOk_by h.k
theorem ok_lc (O : OkX N sc T C X) (h : LcP X C N sc scope tg it ifs elt t ii cs ie) : OkE X C (.ListComp elt [⟨tg, it, ifs, 0⟩] scope pos) (.cmpr ie t ii cs) := by
  obtain ⟨q, hi⟩ := h.i
  exact OkE.of (fun i z => nomatch z) (fun x p z => nomatch z) (fun _ => rfl) ((je_lc O.calm (by rw [O.nm]; exact O.nd) hi (h.blk O) (own_snd _) (h.blkJ O) (fold_ok h.s)).qq fun z => by simp [quiet] at z)
theorem ok_rng1 (O : OkX N sc T C X) (hg : bltB T sc "range" = true) (ha : OkE X C a ia) : OkIt X C tg (.Call (.Name "range" p) [a] [] pos) (.rng1 ia) := by
  obtain ⟨g1, g2⟩ := bltB_ok O hg
  exact ⟨_, (ji_rng1 g1 g2 ha.ns (OkEs.cons ha .nil).jps).two fun _ => rfl⟩
theorem ok_rng2 (O : OkX N sc T C X) (hg : bltB T sc "range" = true) (ha : OkE X C a ia) (hb : OkE X C b ib) : OkIt X C tg (.Call (.Name "range" p) [a, b] [] pos) (.rng2 ia ib) := by
  obtain ⟨g1, g2⟩ := bltB_ok O hg
  exact ⟨_, (ji_rng2 g1 g2 ha.ns hb.ns (OkEs.cons ha (.cons hb .nil)).jps).two fun _ => rfl⟩
theorem ok_enum {l : List Expr} {k : Nat} {q : Pos} (O : OkX N sc T C X) (hg : bltB T sc "enumerate" = true) (ha : OkE X C a ia) : OkIt X C (.Tuple l k q) (.Call (.Name "enumerate" p) [a] [] pos) (.enum ia) := by
  obtain ⟨g1, g2⟩ := bltB_ok O hg
  exact ⟨_, (ji_enum g1 g2 ha.ns (OkEs.cons ha .nil).jps).two fun _ => rfl⟩
theorem ok_zip {l : List Expr} {k : Nat} {q : Pos} (O : OkX N sc T C X) (hg : bltB T sc "zip" = true) (ha : OkE X C a ia) (hb : OkE X C b ib) : OkIt X C (.Tuple l k q) (.Call (.Name "zip" p) [a, b] [] pos) (.zip ia ib) := by
  obtain ⟨g1, g2⟩ := bltB_ok O hg
  exact ⟨_, (ji_zip g1 g2 ha.ns hb.ns (OkEs.cons ha (.cons hb .nil)).jps).two fun _ => rfl⟩
theorem zip_three {i j : Nat} {tg e : Expr} (O : OkX N sc T C X) (h : chIt T N sc (.zip (.var i) (.var j)) tg e = true) (k : ∀ {x y : Str} {px py : Pos}, visB N sc i x = true → visB N sc j y = true → OkE X C (.Name x px) (.var i) ∧ OkE X C (.Name y py) (.var j)) : OkIt3 X C tg e (.zip (.var i) (.var j)) := by
  simp only [chIt] at h
  split at h
  · split at h
    · rename_i l1 k1 p1 x1 p2 y z pos1 _
      simp only [Bool.and_eq_true, decide_eq_true_eq] at h
      obtain ⟨⟨⟨rfl, h1⟩, h2⟩, h3⟩ := h
      simp only [chE] at h2 h3
      split at h2
      · split at h3
        · obtain ⟨g1, g2⟩ := bltB_ok O h1
          obtain ⟨ha, hb⟩ := k h2 h3
          obtain ⟨a1, a2, a3, a4⟩ := visB_ok h2
          obtain ⟨b1, b2, b3, b4⟩ := visB_ok h3
          rw [← O.nm] at a1 b1
          rw [← O.sc] at a2 b2
          exact ⟨_, ji_zipH g1 g2 (pe_var a1 a2 a3 a4) (pe_var b1 b2 b3 b4) (ji_zip g1 g2 ha.ns hb.ns (OkEs.cons ha (.cons hb .nil)).jps)⟩
        · cases h3
      · cases h2
    · cases h
  · cases h
theorem okIt3_of : ∀ {ii : It} {tg e : Expr}, OkX N sc T C X → chIt T N sc ii tg e = true → OkIt X C tg e ii → (∀ {i : Nat} {x : Str} {px : Pos}, visB N sc i x = true → OkE X C (.Name x px) (.var i)) → OkIt3 X C tg e ii
  | .zip (.var i) (.var j), _, _, O, h, _, v => zip_three O h fun a b => ⟨v a, v b⟩
  | .val _, _, _, _, _, k, _ => k.three fun _ => rfl
  | .rng1 _, _, _, _, _, k, _ => k.three fun _ => rfl
  | .rng2 _ _, _, _, _, _, k, _ => k.three fun _ => rfl
  | .enum _, _, _, _, _, k, _ => k.three fun _ => rfl
  | .enumzip _ _, _, _, _, _, k, _ => k.three fun _ => rfl
  | .hid _, _, _, _, _, k, _ => k.three fun _ => rfl
  | .zip a b, _, _, O, h, k, v => by
    by_cases ha : ∃ i, a = .var i
    · obtain ⟨i, rfl⟩ := ha
      by_cases hb : ∃ j, b = .var j
      · obtain ⟨j, rfl⟩ := hb
        exact zip_three O h fun a b => ⟨v a, v b⟩
      · refine k.three fun env => ?_
        cases b <;> first | rfl | exact absurd ⟨_, rfl⟩ hb
    · refine k.three fun env => ?_
      cases a <;> first | rfl | exact absurd ⟨_, rfl⟩ ha
end
mutual
theorem chE_ok {T : Tab} {N : List Str} {C : CallF} : ∀ {ie : IE} {sc : Scope} {e : Expr} {X : Cx}, chE T N sc ie e = true → OkX N sc T C X → OkE X C e ie
  | .cst d, sc, e, X, h, O => chC_ok (by simpa only [chE] using h)
  | .var i, sc, e, X, h, O => by
    simp only [chE] at h
    split at h
    · exact ok_var O h
    · cases h
  | .bop o a b, sc, e, X, h, O => by
    simp only [chE] at h
    split at h
    · simp only [Bool.and_eq_true, decide_eq_true_eq] at h
      obtain ⟨⟨rfl, h1⟩, h2⟩ := h
      exact ok_bop (chE_ok h1 O) (chE_ok h2 O)
    · cases h
  | .cmp o a b, sc, e, X, h, O => by
    simp only [chE] at h
    split at h
    · simp only [Bool.and_eq_true, decide_eq_true_eq, Bool.not_eq_true'] at h
      obtain ⟨⟨⟨rfl, h0⟩, h1⟩, h2⟩ := h
      exact ok_cmp O.un h0 (chE_ok h1 O) (chE_ok h2 O)
    · cases h
  | .chn o p a b c, sc, e, X, h, O => by
    simp only [chE] at h
    split at h
    · simp only [Bool.and_eq_true, decide_eq_true_eq, Bool.not_eq_true'] at h
      obtain ⟨⟨⟨⟨⟨rfl, rfl⟩, h0⟩, h1⟩, h2⟩, h3⟩ := h
      exact ok_chn O.un h0 (chE_ok h1 O) (chE_ok h2 O) (chE_ok h3 O)
    · cases h
  | .nt a, sc, e, X, h, O => by
    simp only [chE] at h
    split at h
    · exact ok_nt (chE_ok h O)
    · cases h
  | .neg a, sc, e, X, h, O => by
    simp only [chE] at h
    split at h
    · exact ok_neg (chE_ok h O)
    · cases h
  | .andv l, sc, e, X, h, O => by
    simp only [chE] at h
    split at h
    · simp only [Bool.and_eq_true, Bool.not_eq_true'] at h
      exact ok_and (chEs_ok h.1 O) fun z => by rw [z] at h; cases h.2
    · cases h
  | .orv l, sc, e, X, h, O => by
    simp only [chE] at h
    split at h
    · simp only [Bool.and_eq_true, Bool.not_eq_true'] at h
      exact ok_or (chEs_ok h.1 O) fun z => by rw [z] at h; cases h.2
    · cases h
  | .ifx c a b, sc, e, X, h, O => by
    simp only [chE] at h
    split at h
    · simp only [Bool.and_eq_true] at h
      exact ok_ifx (chE_ok h.1.1 O) (chE_ok h.1.2 O) (chE_ok h.2 O)
    · cases h
  | .call f l, sc, e, X, h, O => by
    simp only [chE] at h
    split at h
    · simp only [Bool.and_eq_true, decide_eq_true_eq, Bool.not_eq_true'] at h
      obtain ⟨⟨⟨h1, h2⟩, h3⟩, h4⟩ := h
      exact ok_call O h1 (O.fns _ _ _ h2) (chEs_ok h3 O) fun z => by rw [z] at h4; cases h4
    · cases h
  | .bi b a, sc, e, X, h, O => by
    simp only [chE] at h
    split at h
    · split at h
      · rename_i x' F hb
        simp only [Bool.and_eq_true, decide_eq_true_eq] at h
        obtain ⟨⟨rfl, h1⟩, h2⟩ := h
        exact ok_bi O hb h1 (chE_ok h2 O)
      · split at h
        · simp only [Bool.and_eq_true, decide_eq_true_eq] at h
          obtain ⟨⟨⟨⟨rfl, h1⟩, rfl⟩, h2⟩, h3⟩ := h
          exact ok_nset O h1 h2 (chE_ok h3 O)
        · cases h
    · cases h
  | .inst a ts, sc, e, X, h, O => by
    simp only [chE] at h
    split at h
    · simp only [Bool.and_eq_true, decide_eq_true_eq] at h
      obtain ⟨⟨⟨rfl, h1⟩, h2⟩, h3⟩ := h
      split at h3
      · obtain ⟨k1, k2, k3⟩ := chTy_ok O h3
        exact ok_inst O h1 (chE_ok h2 O) k1 k2 k3
      · split at h3
        · simp only [Bool.and_eq_true, decide_eq_true_eq] at h3
          obtain ⟨k1, k2, k3, k4⟩ := chTys_ok O h3.1
          exact ok_instT O h1 (chE_ok h2 O) k1 (by have := h3.2; rw [sizeLine_eq]; omega) k2 k3 k4
        · cases h3
    · cases h
  | .mu m i l, sc, e, X, h, O => by
    simp only [chE] at h
    split at h
    · simp only [Bool.and_eq_true, decide_eq_true_eq] at h
      obtain ⟨⟨⟨⟨h1, h2⟩, h3⟩, h4⟩, h5⟩ := h
      exact ok_mu O h1 h2 h3 (chEs_ok h4 O) h5
    · cases h
  | .ix a b, sc, e, X, h, O => by
    simp only [chE] at h
    split at h
    · simp only [Bool.and_eq_true] at h
      exact ok_ix O h.1.1 (chE_ok h.1.2 O) (chE_ok h.2 O)
    · cases h
  | .sl a lo hi, sc, e, X, h, O => by
    simp only [chE] at h
    split at h
    · simp only [Bool.and_eq_true] at h
      exact ok_sl (chE_ok h.1.1 O) (chO_ok h.1.2 O) (chO_ok h.2 O)
    · cases h
  | .rev a, sc, e, X, h, O => by
    simp only [chE] at h
    split at h
    · exact ok_rev (chE_ok h O)
    · cases h
  | .tup l, sc, e, X, h, O => by
    simp only [chE] at h
    split at h
    · exact ok_tup (chEs_ok h O)
    · cases h
  | .lst l, sc, e, X, h, O => by
    simp only [chE] at h
    split at h
    · exact ok_lst (chEs_ok h O)
    · cases h
  | .dct l, sc, e, X, h, O => by
    simp only [chE] at h
    split at h
    · simp only [Bool.or_eq_true] at h
      rcases h with h | h
      · simp only [Bool.and_eq_true, List.isEmpty_iff] at h
        obtain ⟨⟨rfl, rfl⟩, rfl⟩ := h
        exact ok_dct0
      · simp only [Bool.and_eq_true, decide_eq_true_eq, Bool.not_eq_true'] at h
        exact ok_dct (chD_ok h.1.1 O) h.1.2 h.2
    · cases h
  | .lrg1 tp a, sc, e, X, h, O => by
    simp only [chE] at h
    split at h
    · simp only [Bool.and_eq_true, decide_eq_true_eq] at h
      obtain ⟨⟨⟨⟨h1, h2⟩, rfl⟩, h3⟩, h4⟩ := h
      exact ok_lrg1 O h1 h2 h3 (chE_ok h4 O)
    · cases h
  | .lrg2 tp a b, sc, e, X, h, O => by
    simp only [chE] at h
    split at h
    · simp only [Bool.and_eq_true, decide_eq_true_eq] at h
      obtain ⟨⟨⟨⟨⟨h1, h2⟩, rfl⟩, h3⟩, h4⟩, h5⟩ := h
      exact ok_lrg2 O h1 h2 h3 (chE_ok h4 O) (chE_ok h5 O)
    · cases h
  | .cmpr b t it cs, sc, e, X, h, O => by
    simp only [chE] at h
    split at h
    · simp only [Bool.and_eq_true] at h
      obtain ⟨⟨⟨⟨⟨h1, h2⟩, h3⟩, h4⟩, h5⟩, h6⟩ := h
      exact ok_lc O ⟨okIt3_of O h1 (chIt_ok h1 O) (fun hv => ok_var O hv), h2, h3, h4, fun s H Ca cl fp => chCs_ok h5 (O.blk s H Ca cl fp), fun s H Ca cl fp => chE_ok h6 (O.blk s H Ca cl fp)⟩
    · cases h
  | .glb x d, sc, e, X, h, O => by
    simp only [chE] at h
    split at h
    · simp only [Bool.and_eq_true, decide_eq_true_eq, Bool.not_eq_true'] at h
      obtain ⟨⟨⟨rfl, h1⟩, h2⟩, h3⟩ := h
      exact ok_glb O h1 h2 h3
    · cases h
  | .bi2 b a c, sc, e, X, h, O => by
    simp only [chE] at h
    split at h
    · split at h
      · simp only [Bool.and_eq_true, decide_eq_true_eq] at h
        obtain ⟨⟨⟨rfl, h1⟩, h2⟩, h3⟩ := h
        exact ok_max2 O h1 (chE_ok h2 O) (chE_ok h3 O)
      · simp only [Bool.and_eq_true, decide_eq_true_eq] at h
        obtain ⟨⟨⟨rfl, h1⟩, h2⟩, h3⟩ := h
        exact ok_min2 O h1 (chE_ok h2 O) (chE_ok h3 O)
      · cases h
    · cases h
  | .me m r l, sc, e, X, h, O => by
    simp only [chE] at h
    split at h
    · simp only [Bool.and_eq_true] at h
      obtain ⟨⟨⟨⟨h1, h2⟩, h3⟩, h4⟩, h5⟩ := h
      have k4 := chEs_ok h4 O
      have k3 := chE_ok h3 O
      cases m with
      | get =>
        simp only [Bool.and_eq_true, Bool.or_eq_true, decide_eq_true_eq] at h5
        obtain ⟨rfl, h5⟩ := h5
        cases k4 with
        | nil => simp at h5
        | cons ka kt =>
          cases kt with
          | nil => exact ok_get1 O h1 h2 k3 ka
          | cons kb kt =>
            cases kt with
            | nil => exact ok_get2 O h1 h2 k3 ka kb
            | cons _ _ => simp at h5
      | count =>
        simp only [Bool.and_eq_true, decide_eq_true_eq] at h5
        exact ok_meL O (.inl ⟨rfl, h5.1⟩) h1 h2 k3 k4 h5.2
      | index =>
        simp only [Bool.and_eq_true, decide_eq_true_eq] at h5
        exact ok_meL O (.inr ⟨rfl, h5.1⟩) h1 h2 k3 k4 h5.2
      | _ => cases h5
    · cases h
theorem chEs_ok {T : Tab} {N : List Str} {C : CallF} : ∀ {il : List IE} {sc : Scope} {es : List Expr} {X : Cx}, chEs T N sc il es = true → OkX N sc T C X → OkEs X C es il
  | [], sc, [], X, h, O => .nil
  | [], sc, _ :: _, X, h, O => by simp [chEs] at h
  | _ :: _, sc, [], X, h, O => by simp [chEs] at h
  | a :: l, sc, e :: es, X, h, O => by
    simp only [chEs, Bool.and_eq_true] at h
    exact .cons (chE_ok h.1 O) (chEs_ok h.2 O)
theorem chCs_ok {T : Tab} {N : List Str} {C : CallF} : ∀ {il : List IE} {sc : Scope} {es : List Expr} {X : Cx}, chCs T N sc il es = true → OkX N sc T C X → OkCs X C es il
  | [], sc, [], X, h, O => .nil
  | [], sc, _ :: _, X, h, O => by simp [chCs] at h
  | [a], sc, [e], X, h, O => by
    simp only [chCs] at h
    exact .one (chE_ok h O)
  | [_], sc, [], X, h, O => by simp [chCs] at h
  | [_], sc, _ :: _ :: _, X, h, O => by simp [chCs] at h
  | _ :: _ :: _, sc, es, X, h, O => by simp [chCs] at h
theorem chO_ok {T : Tab} {N : List Str} {C : CallF} : ∀ {ie : Option IE} {sc : Scope} {e : Option Expr} {X : Cx}, chO T N sc ie e = true → OkX N sc T C X → OkO X C e ie
  | none, sc, none, X, h, O => True.intro
  | none, sc, some _, X, h, O => by simp [chO] at h
  | some _, sc, none, X, h, O => by simp [chO] at h
  | some a, sc, some e, X, h, O => by
    simp only [chO] at h
    exact chE_ok h O
theorem chD_ok {T : Tab} {N : List Str} {C : CallF} : ∀ {il : List IE} {sc : Scope} {ks : List (Option Expr)} {vs : List Expr} {X : Cx}, chD T N sc il ks vs = true → OkX N sc T C X → OkD X C il ks vs
  | [], sc, ks, vs, X, h, O => by
    cases ks <;> cases vs <;> first | exact .nil | (simp [chD] at h)
  | [_], sc, ks, vs, X, h, O => by simp [chD] at h
  | a :: b :: l, sc, ks, vs, X, h, O => by
    cases ks with
    | nil => simp [chD] at h
    | cons k ks =>
      cases k with
      | none => simp [chD] at h
      | some k =>
        cases vs with
        | nil => simp [chD] at h
        | cons v vs =>
          simp only [chD, Bool.and_eq_true] at h
          exact .cons (chE_ok h.1.1 O) (chE_ok h.1.2 O) (chD_ok h.2 O)
theorem chIt_ok {T : Tab} {N : List Str} {C : CallF} : ∀ {ii : It} {sc : Scope} {tg e : Expr} {X : Cx}, chIt T N sc ii tg e = true → OkX N sc T C X → OkIt X C tg e ii
  | .val a, sc, tg, e, X, h, O => by
    simp only [chIt] at h
    exact ⟨_, (ji_val (chE_ok h O).je).two fun _ => rfl⟩
  | .hid i, sc, tg, e, X, h, O => by
    simp only [chIt] at h
    split at h
    · obtain ⟨h1, h2, h3, h4⟩ := visB_ok h
      exact ⟨_, ji_hid (by rw [O.nm]; exact h1) (by rw [O.sc]; exact h2) h3 h4⟩
    · cases h
  | .rng1 a, sc, tg, e, X, h, O => by
    simp only [chIt] at h
    split at h
    · simp only [Bool.and_eq_true, decide_eq_true_eq] at h
      obtain ⟨⟨rfl, h1⟩, h2⟩ := h
      exact ok_rng1 O h1 (chE_ok h2 O)
    · cases h
  | .rng2 a b, sc, tg, e, X, h, O => by
    simp only [chIt] at h
    split at h
    · simp only [Bool.and_eq_true, decide_eq_true_eq] at h
      obtain ⟨⟨⟨rfl, h1⟩, h2⟩, h3⟩ := h
      exact ok_rng2 O h1 (chE_ok h2 O) (chE_ok h3 O)
    · cases h
  | .enum a, sc, tg, e, X, h, O => by
    simp only [chIt] at h
    split at h
    · split at h
      · simp only [Bool.and_eq_true, decide_eq_true_eq] at h
        obtain ⟨⟨rfl, h1⟩, h2⟩ := h
        exact ok_enum O h1 (chE_ok h2 O)
      · cases h
    · cases h
  | .zip a b, sc, tg, e, X, h, O => by
    simp only [chIt] at h
    split at h
    · split at h
      · simp only [Bool.and_eq_true, decide_eq_true_eq] at h
        obtain ⟨⟨⟨rfl, h1⟩, h2⟩, h3⟩ := h
        exact ok_zip O h1 (chE_ok h2 O) (chE_ok h3 O)
      · cases h
    · cases h
  | .enumzip _ _, sc, tg, e, X, h, O => by simp [chIt] at h
end
end VI
set_option maxRecDepth 100000
set_option maxHeartbeats 4000000
/-! VI: the checker of statements. -/
namespace VI
open PySem PySem.Spec PyProof.Rows L2
def notTup : Expr → Bool
  | .Tuple _ _ _ => false
  | _ => true
def notComp : Expr → Bool
  | .ListComp _ _ _ _ => false
  | .SetComp _ _ _ _ => false
  | .DictComp _ _ _ _ _ => false
  | _ => true
/-- x = [..] on the line of the display, x a local: the name is swapped with -/
def swB (sc : Scope) (x : Str) (px : Pos) : Expr → Option Bool
  | .ListComp _ _ s p => some (decide (sc.names.lookup x = some .local) && (px.line == p.line) && !(s.names.any fun (n, k) => n == x && (k == .local || k == .cell)))
  | .SetComp _ _ _ _ => none
  | .DictComp _ _ _ _ _ => none
  | _ => some false
mutual
def chS (T : Tab) (N : List Str) (sc : Scope) : IS → Stmt → Bool
  | .asg t e, s => (match s with
    | .Assign [tg] v _ => (match t with
      | .nm i => (match tg with
        | .Name x px => decide (N[i]? = some x) && locB sc x && chE T N sc e v && (swB sc x px v).isSome
        | _ => false)
      | .tp l => (match tg with
        | .Tuple _ _ _ => chTg N (locB sc) (.tp l) tg && notTup v && chE T N sc e v
        | _ => false))
    | _ => false)
  | .set i k e, s => (match s with
    | .Assign [.Subscript (.Name x _) kx _] v _ => visB N sc i x && plB kx && chE T N sc k kx && chE T N sc e v
    | _ => false)
  | .aug i o e, s => (match s with
    | .AugAssign (.Name x _) op v _ => decide (N[i]? = some x) && locB sc x && chE T N sc e v && (match o, op with
      | .add, .Add => true
      | .sub, .Sub => true
      | _, _ => false)
    | _ => false)
  | .augs _ _ _ _, _ => false
  | .ex e, s => (match s with
    | .Expr v _ => notComp v && chE T N sc e v
    | _ => false)
  | .ifs c a b, s => (match s with
    | .If t x y _ => chE T N sc c t && chSs T N sc a x && chSs T N sc b y
    | _ => false)
  | .for_ t it b, s => (match s with
    | .For tg iter x [] _ => chIt T N sc it tg iter && notSet iter && chTg N (locB sc) t tg && chSs T N sc b x
    | _ => false)
  | .whl c b, s => (match s with
    | .While t x [] _ => chE T N sc c t && chSs T N sc b x
    | _ => false)
  | .ret e, s => (match s with
    | .Return (some v) _ => chE T N sc e v
    | _ => false)
  | .retn, s => (match s with
    | .Return none _ => true
    | _ => false)
  | .brk, s => (match s with
    | .Break _ => true
    | _ => false)
  | .cnt, s => (match s with
    | .Continue _ => true
    | _ => false)
  | .pass, s => (match s with
    | .Pass _ => true
    | _ => false)
def chSs (T : Tab) (N : List Str) (sc : Scope) : List IS → List Stmt → Bool
  | [], [] => true
  | a :: l, s :: r => chS T N sc a s && chSs T N sc l r
  | _, _ => false
end
structure OkS (N : List Str) (sc : Scope) (T : Tab) (C : CallF) (X : Cx) : Prop extends OkX N sc T C X where
  po : PassesOwn (model X.prog X.w) X.A X.env X.xe
  fnT : ∀ x, X.fn x = true
  kd : X.env.scope.kind = ScopeKind.function
section
variable {X : Cx} {C : CallF} {N : List Str} {sc : Scope} {T : Tab} {st : Stmt} {e v tg : Expr} {pos px p : Pos} {ie : IE}
theorem OkS.bk (O : OkS N sc T C X) : X.env.blockKind = .function := by
  unfold Env.blockKind
  rw [O.kd]
  split <;> rfl
theorem swap_not {tgo : Option Expr} {n : Nat} {env : Env} (h : notComp v = true) : swapsWith v tgo n env = pure false := by
  cases v <;> first | rfl | cases h
theorem swap_sub {a b : Expr} {q : Pos} {n : Nat} {env : Env} : swapsWithSole [.Subscript a b q] v n env = pure false := by
  cases v <;> rfl
theorem swap_tup {es : List Expr} {k : Nat} {q : Pos} {n : Nat} {env : Env} : swapsWithSole [.Tuple es k q] v n env = pure false := by
  cases v <;> rfl
theorem assign_sub {o k : Expr} {q : Pos} {env : Env} (h : plB k = true) (u : Value) : assign (.Subscript o k q) env u = (do
      let ov ← holding [u] (eval o env)
      let iv ← holding [u, ov] (eval k env)
      standAt q
      holding [u, ov, iv] (setItem ov iv u)
      release [u, ov, iv] []) := by
  cases k <;> first | rfl | cases h
theorem stores_sub {a b : Expr} {q : Pos} {env : Env} : swappedStores [.Subscript a b q] v env = pure none := by
  cases v <;> rfl
theorem stores_tup {es : List Expr} {k : Nat} {q : Pos} {env : Env} (h : notTup v = true) : swappedStores [.Tuple es k q] v env = pure none := by
  cases v <;> first | rfl | cases h
theorem swap_name (O : OkS N sc T C X) {x : Str} {b : Bool} (h : swB sc x px v = some b) : swapsWith v (some (.Name x px)) n X.env = pure b := by
  have hb := O.bk
  cases v <;> simp only [swB] at h <;> cases h <;> try rfl
  unfold swapsWith
  simp only [hb, Env.kindOf, O.sc, bind_pure_comp, map_pure]
  congr 1
  simp only [beq_self_eq_true, Bool.true_and]
  congr 2
  by_cases z : sc.names.lookup x = some .local
  · simp [z]
  · simp [z]
theorem ch_lc {elt : Expr} {gens : List Comprehension} {scope : Scope} (O : OkX N sc T C X) (h : chE T N sc ie (.ListComp elt gens scope p) = true) : ∃ b t it cs tg iter ifs, ie = .cmpr b t it cs ∧ gens = [⟨tg, iter, ifs, 0⟩] ∧ LcP X C N sc scope tg iter ifs elt t it cs b := by
  cases ie with
  | cmpr b t it cs =>
    simp only [chE] at h
    split at h
    · rename_i z
      cases z
      simp only [Bool.and_eq_true] at h
      obtain ⟨⟨⟨⟨⟨h1, h2⟩, h3⟩, h4⟩, h5⟩, h6⟩ := h
      exact ⟨b, t, it, cs, _, _, _, rfl, rfl, ⟨okIt3_of O h1 (chIt_ok h1 O) (fun hv => ok_var O hv), h2, h3, h4, fun s H Ca cl fp => chCs_ok h5 (O.blk s H Ca cl fp), fun s H Ca cl fp => chE_ok h6 (O.blk s H Ca cl fp)⟩⟩
    · cases h
  | cst d => cases d <;> simp [chE, chC] at h
  | _ => simp [chE] at h
theorem ok_asg {i : Nat} {x : Str} (O : OkS N sc T C X) (h1 : N[i]? = some x) (h2 : locB sc x = true) (h3 : chE T N sc ie v = true) (h4 : (swB sc x px v).isSome = true) : JS X (.Assign [.Name x px] v pos) [i] (ex C (.asg (.nm i) ie)) := by
  obtain ⟨b, hb⟩ := Option.isSome_iff_exists.mp h4
  have hs := swap_name (n := pos.line) O hb
  have hN : X.N.Nodup := by rw [O.nm]; exact O.nd
  have hi : X.N[i]? = some x := by rw [O.nm]; exact h1
  cases b with
  | false => exact js_asg hN hi (by rw [O.sc]; exact locB_ok h2) (O.fnT x) hs (chE_ok h3 O.toOkX).tk
  | true =>
    cases v <;> simp only [swB] at hb <;> try cases hb
    rename_i elt gens scope p
    obtain ⟨b, t, it, cs, tg, iter, ifs, rfl, rfl, L⟩ := ch_lc O.toOkX h3
    obtain ⟨q, hq⟩ := L.i
    refine js_lc O.calm hN hi ?_ hs hq (L.blk O.toOkX) (own_snd _) (L.blkJ O.toOkX) (fold_ok L.s)
    simp only [Option.some.injEq, Bool.and_eq_true, decide_eq_true_eq] at hb
    rw [O.sc]
    exact hb.1.1
end
mutual
theorem chS_ok {T : Tab} {N : List Str} {sc : Scope} {C : CallF} {X : Cx} (O : OkS N sc T C X) : ∀ {s : IS} {st : Stmt}, chS T N sc s st = true → JS X st (asgI s) (ex C s)
  | .asg t e, st, h => by
    simp only [chS] at h
    split at h
    · split at h
      · split at h
        · simp only [Bool.and_eq_true, decide_eq_true_eq] at h
          simp only [asgI, tgs]
          exact ok_asg O h.1.1.1 h.1.1.2 h.1.2 h.2
        · cases h
      · split at h
        · simp only [Bool.and_eq_true] at h
          simp only [asgI]
          exact js_asgT (chE_ok h.2 O.toOkX).je (chTg_ok O.nm O.nd O.calm (fun x hx => ⟨by rw [O.sc]; exact locB_ok hx, .inl (O.fnT x)⟩) h.1.1) swap_tup (stores_tup h.1.2) rfl
        · cases h
    · cases h
  | .set i k e, st, h => by
    simp only [chS] at h
    split at h
    · simp only [Bool.and_eq_true] at h
      obtain ⟨h1, h2, h3, h4⟩ := visB_ok h.1.1.1
      have hu := O.un
      simp only [asgI]
      exact js_set (x := "") (p2 := ⟨0, 0, 0, 0⟩) (by omega) (pe_var (by rw [O.nm]; exact h1) (by rw [O.sc]; exact h2) h3 h4) (chE_ok h.2 O.toOkX).je (chE_ok h.1.2 O.toOkX).je swap_sub stores_sub rfl (assign_sub h.1.1.2)
    · cases h
  | .aug i o e, st, h => by
    simp only [chS] at h
    split at h
    · simp only [Bool.and_eq_true, decide_eq_true_eq] at h
      obtain ⟨⟨⟨h1, h2⟩, h3⟩, h4⟩ := h
      have hN : X.N.Nodup := by rw [O.nm]; exact O.nd
      simp only [asgI]
      split at h4
      · exact js_aug hN (by rw [O.nm]; exact h1) (by rw [O.sc]; exact locB_ok h2) (O.fnT _) ip_add (fun _ _ => rfl) (chE_ok h3 O.toOkX).je
      · exact js_aug hN (by rw [O.nm]; exact h1) (by rw [O.sc]; exact locB_ok h2) (O.fnT _) ip_sub (fun _ _ => rfl) (chE_ok h3 O.toOkX).je
      · cases h4
    · cases h
  | .augs _ _ _ _, st, h => by simp [chS] at h
  | .ex e, st, h => by
    simp only [chS] at h
    split at h
    · simp only [Bool.and_eq_true] at h
      simp only [asgI]
      exact js_ex (swap_not h.1) (chE_ok h.2 O.toOkX).je
    · cases h
  | .ifs c a b, st, h => by
    simp only [chS] at h
    split at h
    · simp only [Bool.and_eq_true] at h
      simp only [asgI]
      exact js_if (chE_ok h.1.1 O.toOkX).tt (chSs_ok O h.1.2) (chSs_ok O h.2)
    · cases h
  | .for_ t it b, st, h => by
    simp only [chS] at h
    split at h
    · simp only [Bool.and_eq_true] at h
      obtain ⟨⟨⟨h1, h2⟩, h3⟩, h4⟩ := h
      obtain ⟨q, hq⟩ := chIt_ok h1 O.toOkX
      simp only [asgI]
      exact js_for O.po O.calm hq rfl rfl (chTg_ok O.nm O.nd O.calm (fun x hx => ⟨by rw [O.sc]; exact locB_ok hx, .inl (O.fnT x)⟩) h3) (chSs_ok O h4) (fold_ok h2)
    · cases h
  | .whl c b, st, h => by
    simp only [chS] at h
    split at h
    · simp only [Bool.and_eq_true] at h
      simp only [asgI]
      exact js_whl O.po (chE_ok h.1 O.toOkX).tt (chSs_ok O h.2)
    · cases h
  | .ret e, st, h => by
    simp only [chS] at h
    split at h
    · simp only [asgI]
      exact js_ret (chE_ok h O.toOkX).tk
    · cases h
  | .retn, st, h => by
    simp only [chS] at h
    split at h
    · simp only [asgI]
      exact js_retn C
    · cases h
  | .brk, st, h => by
    simp only [chS] at h
    split at h
    · simp only [asgI]
      exact js_brk C
    · cases h
  | .cnt, st, h => by
    simp only [chS] at h
    split at h
    · simp only [asgI]
      exact js_cnt C
    · cases h
  | .pass, st, h => by
    simp only [chS] at h
    split at h
    · simp only [asgI]
      exact js_pass C
    · cases h
theorem chSs_ok {T : Tab} {N : List Str} {sc : Scope} {C : CallF} {X : Cx} (O : OkS N sc T C X) : ∀ {l : List IS} {sts : List Stmt}, chSs T N sc l sts = true → JSs X sts (asgs l) (exs C l)
  | [], [], _ => by
    simp only [asgs]
    exact jss_nil C
  | [], _ :: _, h => by simp [chSs] at h
  | _ :: _, [], h => by simp [chSs] at h
  | a :: l, s :: r, h => by
    simp only [chSs, Bool.and_eq_true] at h
    simp only [asgs]
    exact jss_cons (chS_ok O h.1) (chSs_ok O h.2)
end
end VI
set_option maxRecDepth 100000
set_option maxHeartbeats 4000000
/-! VI: a module's defs; the law's end. -/
namespace VI
open PySem PySem.Spec PyProof.Rows L2
/-- a def of the text: its name, its slots' names, what it is in the small language -/
structure DefI where
  name : Str
  names : List Str
  st : Stmt
  fn : Fn
def DefI.ps (d : DefI) : List Str := d.names.take d.fn.np
def scB (N P : List Str) (sc : Scope) : Bool :=
  (match sc.kind with
  | .function => true
  | _ => false) && !sc.isCoroutine && !sc.isGenerator && decide N.Nodup && decide (N.take P.length = P) && (P.all fun x => locB sc x) && sc.names.all fun y => decide (y.2 ≠ .free)
theorem scB_ok {N P : List Str} {sc : Scope} (h : scB N P sc = true) : FnScope N P sc := by
  unfold scB at h
  simp only [Bool.and_eq_true, decide_eq_true_eq, Bool.not_eq_true', List.all_eq_true] at h
  obtain ⟨⟨⟨⟨⟨⟨h1, h2⟩, h3⟩, h4⟩, h5⟩, h6⟩, h7⟩ := h
  refine ⟨?_, h2, h3, h4, h5, fun x hx => locB_ok (h6 x hx), h7⟩
  split at h1
  · assumption
  · cases h1
def tabOf (blt : List Str) (cs : List (Str × PyData)) (ds : List DefI) : Tab := ⟨blt, ds.map fun d => (d.name, d.fn.np), cs⟩
def chF (T : Tab) (d : DefI) : Bool :=
  scB d.names d.ps (defScope d.st) && decide (d.fn.np ≤ d.names.length) && decide (d.fn.ns = d.names.length) && !(d.name == ("__debug__" : Str)) && chSs T d.names (defScope d.st) d.fn.body (defBody d.st) && (asgs d.fn.body).all fun i => d.fn.asg.contains i
/-- what stands behind the top -/
def ModOk (K : PySem.W.Frag) (mg : Str → Option Value) (blt : List Str) (cs : List (Str × PyData)) (ds : List DefI) : Prop :=
  (∀ x ∈ blt, mg x = none) ∧ (∀ c ∈ cs, ∃ v u, mg c.1 = some u ∧ RelV v u ∧ ∀ G : Hp, PR K G c.2 v) ∧ ∀ (i : Nat) (d : DefI), ds[i]? = some d → ∃ f fd, FunD K d.name d.name (defArgs d.st) (defBody d.st) (defScope d.st) [] [] f fd ∧ mg d.name = some (.ref f) ∧ Binds K fd d.ps []
def gam (ds : List DefI) : List Fn := ds.map fun d => d.fn
theorem call_len {Γ : List Fn} {k f : Nat} {fn : Fn} (hf : Γ[f]? = some fn) {args : List (PyData × Bool)} {d : PyData} {own : Bool} {fs : List (PyData × Bool)} (h : call Γ k f args = some (d, own, fs)) : args.length = fn.np ∧ fs.length = fn.np := by
  have fl : ∀ {d' : PyData} {own' : Bool} {env' : En}, fin fn args d' own' env' = some (d, own, fs) → fs.length = args.length := fun {d' own' env'} z => by
    unfold fin at z
    split at z
    · cases z
      exact finals_len
    · cases z
  cases k with
  | zero => simp only [call] at h; cases h
  | succ k =>
    simp only [call, hf] at h
    unfold runFn at h
    split at h
    · rename_i hl
      split at h
      · exact ⟨hl, (fl h).trans hl⟩
      · exact ⟨hl, (fl h).trans hl⟩
      · cases h
    · cases h
theorem fns_ok {P : Program} {w : World} {K : PySem.W.Frag} {mg : Str → Option Value} {base : Heap} {blt : List Str} {cs : List (Str × PyData)} {ds : List DefI} (hM : ModOk K mg blt cs ds) (hch : ds.all (chF (tabOf blt cs ds)) = true) : ∀ (k i : Nat) (d : DefI) (f : Addr) (fd : FuncData), ds[i]? = some d →
    FunD K d.name d.name (defArgs d.st) (defBody d.st) (defScope d.st) [] [] f fd → FnG P w K mg base k f fd d.ps (spVI K d.fn.np (call (gam ds) k i))
  | 0, i, d, f, fd, hd, F => by
    have no : ∀ {vs H Q E}, ¬ spVI K d.fn.np (call (gam ds) 0 i) vs H Q E := fun {vs H Q E} ⟨_, _, _, _, _, _, _, _, _, z, _⟩ => by
      simp only [call] at z
      cases z
    exact ⟨fun vs H Q E h => (no h).elim, fun A outer s H args us vs Q E _ _ _ _ _ h => (no h).elim⟩
  | k + 1, i, d, f, fd, hd, F => by
    have hc := List.all_eq_true.mp hch d (List.mem_of_getElem? hd)
    unfold chF at hc
    simp only [Bool.and_eq_true, decide_eq_true_eq, Bool.not_eq_true'] at hc
    obtain ⟨⟨⟨⟨⟨h1, h2⟩, h3⟩, h4⟩, h5⟩, h6⟩ := hc
    have S := scB_ok h1
    have lp : d.ps.length = d.fn.np := by
      unfold DefI.ps
      rw [List.length_take]
      omega
    have hcall : call (gam ds) (k + 1) i = runFn (call (gam ds) k) d.fn := by
      funext args
      have : (gam ds)[i]? = some d.fn := by
        unfold gam
        rw [List.getElem?_map, hd]
        rfl
      simp only [call, this]
    rw [hcall, ← lp]
    obtain ⟨oc, od, dV, kV, doc, pm, an, cdv, ct, osl, rfl, lk, hcd, _, _⟩ := F.ex
    refine fnG_body lk hcd S lp.symm h3 fun A outer s H hr hg => ?_
    have O : OkS d.names (defScope d.st) (tabOf blt cs ds) (call (gam ds) k) (cxOf CX0 P w K mg base d.names d.name (defScope d.st) f cdv A outer s H E0) := by
      refine ⟨⟨rfl, S.nd, rfl, rfl, ?_, hg, hM.1, fun g x n hx => ?_, hM.2.1⟩, passes_of rfl, fun _ => rfl, S.kind⟩
      · have := hr.un
        show (A.deeper _).units + 66 < cLine
        omega
      · unfold tabOf at hx
        rw [List.getElem?_map] at hx
        cases hg2 : ds[g]? with
        | none => rw [hg2] at hx; cases hx
        | some d2 =>
          rw [hg2] at hx
          cases hx
          obtain ⟨f2, fd2, F2, m2, b2⟩ := hM.2.2 g d2 hg2
          have hc2 := List.all_eq_true.mp hch d2 (List.mem_of_getElem? hg2)
          unfold chF at hc2
          simp only [Bool.and_eq_true, decide_eq_true_eq, Bool.not_eq_true'] at hc2
          have gm : (gam ds)[g]? = some d2.fn := by
            unfold gam
            rw [List.getElem?_map, hg2]
            rfl
          exact ⟨fun args d' own fs z => call_len gm z, k, f2, fd2, d2.ps, fns_ok hM hch k g d2 f2 fd2 hg2 F2, hr, m2, F2.kp, b2, hc2.1.1.2⟩
    exact (chSs_ok O h5).more fun i hi => by simpa using List.all_eq_true.mp h6 i hi
/-! ### the law's end -/
section
variable {P : Program} {w : World} {K : PySem.W.Frag} {mg mb : Str → Option Value} {s1 : Shared} {a : Addr} {H : Hp}
/-- the state at the law's call, where at most the script is known to H -/
theorem env_law (KX : K.In s1.heap) (hns : s1.heap.Ns mainGlobals mg) (hb : s1.heap.Ns builtinsNs mb) (hbb : ∀ x : Str, x ≠ "__name__" → mb x = bootBuiltins x) (hlim : s1.heap.NoLimit) (hg : s1.gens = #[]) {o : Obj} (ha : s1.heap.get? a = some o) (hd : ∀ es ep, o.data ≠ .dict es ep)
    (hok : HOk P w H s1.heap) (hA : ∀ b, H b ≠ none → b = a) (hK : H a ≠ none → K.lookup a = none) : Env0 P w K mg (hidT s1.heap H) callerA [] s1 H ∧ K.In (hidT s1.heap H) ∧ (hidT s1.heap H).Ns mainGlobals mg := by
  have free : ∀ {b : Addr}, b ≠ a → H b = none := fun {b} nb => by
    cases q : H b with
    | none => rfl
    | some u => exact absurd (hA b (by rw [q]; exact fun z => nomatch z)) nb
  have ns : ∀ {b : Addr} {m : Str → Option Value}, s1.heap.Ns b m → (hidT s1.heap H).Ns b m := fun {b m} ⟨ob, es, ep, e, d, r⟩ => by
    refine ⟨ob, es, ep, hidT_get e (free fun z => ?_), d, r⟩
    subst z
    rw [ha] at e
    cases e
    exact hd es ep d
  have kin : K.In (hidT s1.heap H) := fun b ob e => by
    refine hidT_get (KX b ob e) ?_
    by_cases z : b = a
    · subst z
      cases q : H b with
      | none => rfl
      | some u =>
        have := hK (by rw [q]; exact fun z => nomatch z)
        rw [this] at e
        cases e
    · exact free z
  refine ⟨⟨rfl, ⟨kin, ns hns, ⟨mb, ns hb, hbb⟩, ?_⟩, fun b ob e => of_hidT e, Nat.le_of_eq (hidT_size _ _), trivial, (fun b z => by cases z), hok, .of_eq hg⟩, kin, ns hns⟩
  obtain ⟨mc, e1, e2⟩ := hlim
  exact ⟨mc, ns e1, e2⟩
end
/-- what a law's def tells of a script -/
theorem sp_law {K : PySem.W.Frag} {H : Hp} {a : Addr} {ns : List Int} {F : List (PyData × Bool) → Option (PyData × Bool × List (PyData × Bool))} (hz : ns.length ≤ sizeLine) (hS : SqL K H a (ns.map V.int))
    (h : ∃ own fs, fs.length = 1 ∧ F [(.list (ns.map .int), false)] = some (.bool true, own, fs)) : spVI K 1 F [.ref a] H (fun v _ => v = .bl true) E0 := by
  obtain ⟨own, fs, hf, e⟩ := h
  have p : PR K H (.list (ns.map .int)) (.ref a) := .lst hS (by rw [List.length_map]; exact hz) PRs.ints
  have lk : ∀ i d f, look (flag [(PyData.list (ns.map .int), false)]) i = some (d, f) → i = 0 ∧ d = .list (ns.map .int) ∧ f = .p := fun i d f h => by
    cases i with
    | zero =>
      simp [flag, look] at h
      exact ⟨rfl, h.1.symm, h.2.symm⟩
    | succ i => simp [flag, look] at h
  refine ⟨H, _, _, own, fs, rfl, rfl, hf, ⟨Same.refl _, fun _ h => h, rfl, fun i d f h => ?_, fun i d b h => ?_, fun i j d e f g b h1 n1 => ?_⟩, e, fun v H' ⟨G', S, V⟩ => ?_⟩
  · obtain ⟨rfl, rfl, rfl⟩ := lk i d f h
    exact ⟨.ref a, rfl, fun _ => p, fun z => absurd rfl z⟩
  · obtain ⟨_, _, z⟩ := lk i d .o h
    cases z
  · obtain ⟨_, _, rfl⟩ := lk i d f h1
    exact absurd rfl n1
  · cases own with
    | false => cases V.1 rfl; rfl
    | true =>
      obtain ⟨_, _, _, c, _⟩ := V.2 rfl
      exact c.elim
theorem law_run {P : Program} {w : World} {K : PySem.W.Frag} {mg mb : Str → Option Value} {k : Nat} {fa a : Addr} {fd : FuncData} {x : Str} {sp : Sp} {s1 : Shared} {vs : List Value} {ns : List Int}
    (KX : K.In s1.heap) (hns : s1.heap.Ns mainGlobals mg) (hb : s1.heap.Ns builtinsNs mb) (hbb : ∀ x : Str, x ≠ "__name__" → mb x = bootBuiltins x) (hlim : s1.heap.NoLimit) (hg : s1.gens = #[])
    (ha : s1.heap.get? a = some { cls := .type "list", data := .seq vs.toArray }) (hi : IntsAre vs ns) (hl : ns.length ≤ sizeLine) (hr : Room k callerA) (hgd : callerA.guards = some [])
    (F : ∀ base : Heap, K.In base → base.Ns mainGlobals mg → FnG P w K mg base k fa fd [x] sp) (hbind : ∀ (s : Shared) (u : Value), BindsTo s fd ⟨[u], []⟩ [(x, u)])
    (hsp : ∀ H : Hp, SqL K H a (ns.map V.int) → sp [.ref a] H (fun v _ => v = .bl true) E0) :
    codeAny (model P w) callerA (.call (.ref fa) ⟨[.ref a], []⟩) (fun r s' => r = .ok (.ret (.bool true)) ∧ OldK s1.heap s'.heap ∧ s'.os = s1.os ∧ AllBare s'.gens) s1 := by
  have rv := vals_ints hi
  have hlen := hi.length
  have main : ∀ H : Hp, (∀ b, H b = none ∨ ∃ o xs, H b = some (.frz o (.lst xs))) → SqL K H a (ns.map V.int) → HOk P w H s1.heap → (∀ b, H b ≠ none → b = a) → (H a ≠ none → K.lookup a = none) →
      codeAny (model P w) callerA (.call (.ref fa) ⟨[.ref a], []⟩) (fun r s' => r = .ok (.ret (.bool true)) ∧ OldK s1.heap s'.heap ∧ s'.os = s1.os ∧ AllBare s'.gens) s1 := fun H hO hS hok hA hK => by
    obtain ⟨e0, kin, gns⟩ := env_law KX hns hb hbb hlim hg ha (fun es ep z => by cases z) hok hA hK
    refine codeAny_mono ((F _ kin gns).run callerA [] s1 H ⟨[.ref a], []⟩ [.ref a] [.ref a] _ E0 hr hgd e0 (hbind s1 (.ref a)) (.cons rfl .nil) (hsp H hS)) fun r s' h => ?_
    match r, h with
    | .error e, h => exact h.elim
    | .ok .next, h => exact h.elim
    | .ok .brk, h => exact h.elim
    | .ok .cont, h => exact h.elim
    | .ok (.ret u), h =>
      obtain ⟨v, H', os, bare, un, hok', r', q⟩ := h
      have q' : v = .bl true := q
      subst q'
      obtain rfl : u = Value.bool true := r'
      refine ⟨rfl, OldK.of_keep fun b o e => ?_, os, bare⟩
      rcases hO b with z | ⟨ob, xs, z⟩
      · exact un.keep b o e z (fun m => by cases m) (fun m => by cases m)
      · have e1 := (hok b _ z).1
        have e2 := (hok' b _ (un.frzs b ob _ z)).1
        rw [e] at e1
        cases e1
        exact e2
  cases hk : K.lookup a with
  | some o =>
    have e := KX a o hk
    rw [ha] at e
    cases e
    exact main (fun _ => none) (fun _ => .inl rfl) (.inr ⟨_, vs.toArray, _, hk, rfl, rfl, rfl, by simp; omega, by simpa using rv⟩) (fun b u z => nomatch z) (fun b z => absurd rfl z) fun z => absurd rfl z
  | none =>
    let H1 : Hp := fun b => if b = a then some (.frz { cls := .type "list", data := .seq vs.toArray } (.lst (ns.map V.int))) else none
    have at_a : H1 a = some (.frz { cls := .type "list", data := .seq vs.toArray } (.lst (ns.map V.int))) := if_pos rfl
    have off : ∀ b, b ≠ a → H1 b = none := fun b nb => if_neg nb
    refine main H1 (fun b => ?_) (.inl (.inr ⟨_, at_a⟩)) (fun b u z => ?_) (fun b z => ?_) fun _ => hk
    · by_cases e : b = a
      · rw [e]; exact .inr ⟨_, _, at_a⟩
      · exact .inl (off b e)
    · by_cases e : b = a
      · subst e
        rw [at_a] at z
        cases z
        exact ⟨ha, by rw [List.length_map]; exact hl, vs, _, rv, ha⟩
      · rw [off b e] at z
        cases z
    · by_cases e : b = a
      · exact e
      · exact absurd (off b e) z
/-- a law by its defs: what its own def tells of every script -/
theorem law_by {l : PySem.W.OpenLaw} {n k i : Nat} {q : Program} {loose : List Str} {XP : (Str → Option Value) → Heap → Prop} {YP : World → Heap → Prop} {d : DefRec} {x : Str} {blt : List Str} {cs : List (Str × PyData)} {ds : List DefI} {dl : DefI}
    (hn : l.most = some n) (hn2 : n ≤ sizeLine) (hdf : d.params.defaults = []) (hr : Room k callerA) (hgd : callerA.guards = some []) (hch : ds.all (chF (tabOf blt cs ds)) = true) (hdl : ds[i]? = some dl) (hps : dl.ps = [x]) (hnp : dl.fn.np = 1)
    (F : ∀ (w : World) (mg : Str → Option Value) (fa : Addr) (h : Heap), YP w h → h.Ns mainGlobals mg → mg d.name = some (.ref fa) →
      ∃ (K : PySem.W.Frag) (fd : FuncData), K.In h ∧ (∀ (s : Shared) (u : Value), BindsTo s fd ⟨[u], []⟩ [(x, u)]) ∧ ModOk K mg blt cs ds ∧ FunD K dl.name dl.name (defArgs dl.st) (defBody dl.st) (defScope dl.st) [] [] fa fd)
    (law : ∀ ns : List Int, ns.length ≤ n → ∃ own fs, call (gam ds) k i [(.list (ns.map .int), false)] = some (.bool true, own, fs)) :
    PySem.W.WalkO q loose XP YP l.row.toRowW d [] (fun f vs => PySem.call f vs) := by
  refine Att.attach_call hn hdf fun w s0 s1 mg mb fa o pm cd doc a vs ns G Y ho hd hcd hmg hobj hints hlen hg => ?_
  obtain ⟨K, fd, KX, hb, hM, FD⟩ := F w mg fa _ Y G.T.g hmg
  refine law_run (sp := spVI K 1 (call (gam ds) k i)) KX G.T.g G.T.b G.T.builtins G.T.nolimit hg hobj hints (Nat.le_trans hlen hn2) hr hgd (fun base _ _ => ?_) hb fun H hS => ?_
  · have := fns_ok (P := l.prog) (w := w) (base := base) hM hch k i dl fa fd hdl FD
    rw [hps, hnp] at this
    exact this
  · obtain ⟨own, fs, e⟩ := law ns hlen
    have gm : (gam ds)[i]? = some dl.fn := by
      unfold gam
      rw [List.getElem?_map, hdl]
      rfl
    exact sp_law (Nat.le_trans hlen hn2) hS ⟨own, fs, by rw [(call_len gm e).2, hnp], e⟩
end VI
set_option maxRecDepth 100000
set_option maxHeartbeats 4000000
/-! VI: the head, by the module's table. -/
namespace VI
open PySem PySem.Spec PyProof.Rows L2
def dD (d : DefI) : He.DefD := ⟨(d.name, none), d.name, d.name, defArgs d.st, defBody d.st, defScope d.st, [], []⟩
def faC : Str × PyData → He.Fa
  | (x, .int i) => .int x i
  | (x, .str z) => .str x z
  | (x, _) => .free x
def atomC (c : Str × PyData) : Bool := match c.2 with
  | .int _ | .str _ => true
  | _ => false
def faOf (blt : List Str) (cs : List (Str × PyData)) (ds : List DefI) : List He.Fa := (ds.map fun d => He.Fa.glo d.name) ++ (blt.map He.Fa.free ++ cs.map faC)
def BindA (d : DefI) : Prop := ∀ (kV doc pm : Value) (an : Option Addr) (cdv ct : Value) (us : List Value), us.length = d.ps.length →
  bindArgs (PySem.W.fnOf d.name d.name (defArgs d.st) (defBody d.st) (defScope d.st) .none kV doc pm an cdv ct) ⟨us, []⟩ = pure (d.ps.zip us)
section
variable {K : PySem.W.Frag} {h : Heap} {mg : Str → Option Value} {blt : List Str} {cs : List (Str × PyData)} {ds : List DefI}
theorem fa_def {i : Nat} {d : DefI} (e : ds[i]? = some d) : (faOf blt cs ds)[i]? = some (.glo d.name) := by
  have hi : i < ds.length := (List.getElem?_eq_some_iff.mp e).1
  unfold faOf
  rw [List.getElem?_append_left (by simpa using hi), List.getElem?_map, e]
  rfl
theorem head_def (c : He.SaysD (faOf blt cs ds) (ds.map dD) K) {i : Nat} {d : DefI} (e : ds[i]? = some d) : ∃ fd, FunD K d.name d.name (defArgs d.st) (defBody d.st) (defScope d.st) [] [] (He.ga K d.name) fd := by
  obtain ⟨fd, F⟩ := c.def_ i (d := dD d) (by rw [List.getElem?_map, e]; rfl)
  exact ⟨fd, F⟩
theorem head_glo (X : K.In h) (G : h.Ns mainGlobals mg) (c : He.SaysD (faOf blt cs ds) (ds.map dD) K) {i : Nat} {d : DefI} (e : ds[i]? = some d) : mg d.name = some (.ref (He.ga K d.name)) :=
  He.glo_ok X G (c.fact i (fa_def e))
theorem head_mod (X : K.In h) (G : h.Ns mainGlobals mg) (c : He.SaysD (faOf blt cs ds) (ds.map dD) K) (hA : cs.all atomC = true) (hB : ∀ d ∈ ds, BindA d) : ModOk K mg blt cs ds := by
  refine ⟨fun x hx => ?_, fun p hp => ?_, fun i d e => ?_⟩
  · obtain ⟨j, hj, ej⟩ := List.mem_iff_getElem.mp hx
    have ex : (faOf blt cs ds)[ds.length + j]? = some (.free x) := by
      unfold faOf
      rw [List.getElem?_append_right (by simp), List.getElem?_append_left (by simp; omega), List.getElem?_map]
      simp [List.getElem?_eq_getElem hj, ej]
    exact He.free_ok X G (c.fact _ ex)
  · have ha := List.all_eq_true.1 hA p hp
    obtain ⟨j, hj, ej⟩ := List.mem_iff_getElem.mp hp
    have ex : (faOf blt cs ds)[ds.length + blt.length + j]? = some (faC p) := by
      unfold faOf
      rw [List.getElem?_append_right (by simp; omega), List.getElem?_append_right (by simp; omega), List.getElem?_map]
      have : ds.length + blt.length + j - (ds.map fun d => He.Fa.glo d.name).length - (blt.map He.Fa.free).length = j := by simp; omega
      rw [this, List.getElem?_eq_getElem hj, ej]
      rfl
    have fx := c.fact _ ex
    obtain ⟨x, d⟩ := p
    cases d with
    | int i =>
      obtain ⟨t, e⟩ := He.int_ok X G fx
      exact ⟨.int i, _, e, ⟨t, rfl⟩, fun G => .int i⟩
    | str z =>
      obtain ⟨t, e⟩ := He.str_ok X G fx
      exact ⟨.str z, _, e, ⟨t, rfl⟩, fun G => .str z⟩
    | _ => simp [atomC] at ha
  · obtain ⟨fd, F⟩ := head_def c e
    exact ⟨_, fd, F, head_glo X G c e, F.bindsN (hB d (List.mem_of_getElem? e))⟩
/-- the law's def, as the head's end wants it -/
theorem head_law {x : Str} {i : Nat} {dl : DefI} {YP : Prop} (e : ds[i]? = some dl) (hps : dl.ps = [x]) (hA : cs.all atomC = true) (hB : ∀ d ∈ ds, BindA d) {f : Addr} (G : h.Ns mainGlobals mg) (hf : mg dl.name = some (.ref f)) (Y : ∃ K : PySem.W.Frag, K.In h ∧ He.SaysD (faOf blt cs ds) (ds.map dD) K) :
    ∃ (K : PySem.W.Frag) (fd : FuncData), K.In h ∧ (∀ (s : Shared) (u : Value), BindsTo s fd ⟨[u], []⟩ [(x, u)]) ∧ ModOk K mg blt cs ds ∧ FunD K dl.name dl.name (defArgs dl.st) (defBody dl.st) (defScope dl.st) [] [] f fd := by
  obtain ⟨K, X, c⟩ := Y
  obtain ⟨fd, F⟩ := head_def c e
  have z := hf.symm.trans (head_glo X G c e)
  cases z
  have b := FunD.bindsA (ps := dl.ps) F (hB dl (List.mem_of_getElem? e))
  refine ⟨K, fd, X, fun s u => ?_, head_mod X G c hA hB, F⟩
  have := b s [u] (by rw [hps]; rfl)
  rw [hps] at this
  exact this
end
end VI
set_option maxRecDepth 100000
set_option maxHeartbeats 4000000
/-! The pen of the laws, by the interpreter. -/
namespace VI
open PySem
def irPen : Fn := ⟨1, 1,
   [(.ret (.dct [(.cst (.str "cells")), (.bi .list (.sl (.var 0) none (some (.cst (.int 63))))), (.cst (.str "at")), (.cst (.int 0)), (.cst (.str "left")), (.cst (.int 0))]))], []⟩
def irDraw : Fn := ⟨2, 7,
   [(.ifs (.cmp .gt (.ix (.var 0) (.cst (.str "left"))) (.cst (.int 0))) [(.asg (.nm 2) (.bop .mod (.ix (.var 0) (.cst (.str "left"))) (.var 1))),
    (.set 0 (.cst (.str "left")) (.bop .fdiv (.ix (.var 0) (.cst (.str "left"))) (.var 1))),
    (.ret (.var 2))] []),
    (.asg (.nm 3) (.ix (.var 0) (.cst (.str "cells")))),
    (.asg (.nm 4) (.ix (.var 0) (.cst (.str "at")))),
    (.set 0 (.cst (.str "at")) (.bop .add (.var 4) (.cst (.int 1)))),
    (.asg (.nm 5) (.bop .add (.bop .mul (.cst (.int 40503)) (.var 4)) (.cst (.int 91)))),
    (.ifs (.cmp .ne (.var 3) (.lst [])) [(.asg (.nm 5) (.ix (.var 3) (.bop .mod (.var 4) (.bi .len (.var 3)))))] []),
    (.ifs (.andv [(.cmp .lt (.var 4) (.bi .len (.var 3))), (.cmp .ge (.bi .abs (.var 5)) (.bop .pow (.cst (.int 10)) (.cst (.int 18))))]) [(.set 0 (.cst (.str "left")) (.bop .fdiv (.bi .abs (.var 5)) (.var 1))),
    (.ret (.bop .mod (.bi .abs (.var 5)) (.var 1)))] []),
    (.asg (.nm 6) (.bop .mod (.bop .pow (.bop .add (.bop .add (.bop .mod (.var 5) (.cst (.int 2147483549))) (.bop .mul (.cst (.int 60013)) (.var 4))) (.cst (.int 37))) (.cst (.int 5))) (.cst (.int 2147483579)))),
    (.asg (.nm 6) (.bop .mod (.bop .pow (.bop .add (.bop .mul (.var 6) (.bop .add (.bop .mul (.cst (.int 2)) (.var 4)) (.cst (.int 7)))) (.cst (.int 70001))) (.cst (.int 3))) (.cst (.int 2147483629)))),
    (.ret (.bop .mod (.bop .fdiv (.var 6) (.cst (.int 16))) (.var 1)))], [2, 3, 4, 5, 5, 6, 6]⟩
def penD (cs : List Int) (a l : Int) : PyData := .dict [(.str "cells", .list (cs.map .int)), (.str "at", .int a), (.str "left", .int l)]
section
variable {cs : List Int} {a l m v : Int} {C : CallF}
theorem pen_left : ixV (penD cs a l) (.str "left") = some (.int l) := by rfl
theorem pen_at : ixV (penD cs a l) (.str "at") = some (.int a) := by rfl
theorem pen_cells : ixV (penD cs a l) (.str "cells") = some (.list (cs.map .int)) := by rfl
theorem pen_setA : setV (penD cs a l) (.str "at") (.int v) = some (penD cs v l) := by
  unfold setV penD
  dsimp only [keyOf]
  rw [if_pos (by rw [sizeLine_eq]; simp)]
  rfl
theorem pen_setL : setV (penD cs a l) (.str "left") (.int v) = some (penD cs a v) := by
  unfold setV penD
  dsimp only [keyOf]
  rw [if_pos (by rw [sizeLine_eq]; simp)]
  rfl
theorem draw_left (hl : 0 < l) (hm : 0 < m) (hm2 : m < 1073741824) : runFn C irDraw [(penD cs a l, true), (.int m, false)] = some (.int (l.fmod m), false, [(penD cs a (l.fdiv m), true), (.int m, false)]) := by
  have e1 : m ≠ 0 := by omega
  have e2 : m.natAbs < 1073741824 := by omega
  simp [runFn, irDraw, exs, ex, ev, entry, tst, truE, rdOf, fstOf, lateOf, quiet, pers, look, keepV, readV, takeV, tkOf, pen_left, copV, hl, truV, bopV, e1, e2, pen_setL, fin, okFin, finals]
theorem lay_ints : ∀ cs : List Int, PyData.canLayAll0 (cs.map .int) = true
  | [] => rfl
  | c :: cs => by
    rw [List.map_cons]
    simp only [PyData.canLayAll0, lay_ints cs, Bool.and_true]
    rfl
theorem pyEqNil (xs : List PyData) : pyEq (.list xs) (.list []) = some xs.isEmpty := by
  cases xs with
  | nil => rfl
  | cons c cs => rfl
theorem ne_nil (cs : List Int) : copV .ne (.list (cs.map .int)) (.list []) = some (!cs.isEmpty) := by
  simp only [copV, pyEqNil]
  cases cs <;> rfl
theorem fmod_pos {x m : Int} (hm : 0 < m) : 0 ≤ x.fmod m ∧ x.fmod m < m := ⟨Int.fmod_nonneg_of_pos x hm, Int.fmod_lt_of_pos x hm⟩
/-- the number that a cell is turned into -/
def turn1 (c a : Int) : Int := (c.fmod 2147483549 + 60013 * a + 37) ^ 5
def turn2 (c a : Int) : Int := ((turn1 c a).fmod 2147483579 * (2 * a + 7) + 70001) ^ 3
def turn3 (c a m : Int) : Int := (((turn2 c a).fmod 2147483629).fdiv 16).fmod m
theorem turn_small {c a : Int} (ha : 0 ≤ a) (ha2 : a ≤ 2147483648) : (c.fmod 2147483549 + 60013 * a + 37).natAbs < 18446744073709551616 ∧ ((turn1 c a).fmod 2147483579 * (2 * a + 7) + 70001).natAbs < 18446744073709551616 ∧ 0 ≤ (turn1 c a).fmod 2147483579 ∧ (turn1 c a).fmod 2147483579 < 2147483579 := by
  obtain ⟨h1, h2⟩ := fmod_pos (x := c) (m := 2147483549) (by decide)
  obtain ⟨h3, h4⟩ := fmod_pos (x := turn1 c a) (m := 2147483579) (by decide)
  refine ⟨by omega, ?_, h3, h4⟩
  generalize (turn1 c a).fmod 2147483579 = n at h3 h4
  have h5 : n * (2 * a + 7) ≤ 2147483579 * (2 * 2147483648 + 7) := Int.mul_le_mul (by omega) (by omega) (by omega) (by decide)
  have h6 : 0 ≤ n * (2 * a + 7) := Int.mul_nonneg h3 (by omega)
  generalize n * (2 * a + 7) = z at h5 h6
  omega
def drawTail : List IS := [(.asg (.nm 6) (.bop .mod (.bop .pow (.bop .add (.bop .add (.bop .mod (.var 5) (.cst (.int 2147483549))) (.bop .mul (.cst (.int 60013)) (.var 4))) (.cst (.int 37))) (.cst (.int 5))) (.cst (.int 2147483579)))),
    (.asg (.nm 6) (.bop .mod (.bop .pow (.bop .add (.bop .mul (.var 6) (.bop .add (.bop .mul (.cst (.int 2)) (.var 4)) (.cst (.int 7)))) (.cst (.int 70001))) (.cst (.int 3))) (.cst (.int 2147483629)))),
    (.ret (.bop .mod (.bop .fdiv (.var 6) (.cst (.int 16))) (.var 1)))]
theorem draw_tail {s0 s2 s3 s6 : Slot} {c : Int} (ha : 0 ≤ a) (ha2 : a ≤ 2147483648) (hm : m ≠ 0) : exs C drawTail [s0, some (.int m, .p), s2, s3, some (.int a, .p), some (.int c, .p), s6] =
    some (.rt (.int (turn3 c a m)) false, [s0, some (.int m, .p), s2, s3, some (.int a, .p), some (.int c, .p), some (.int ((turn2 c a).fmod 2147483629), .p)]) := by
  obtain ⟨p1, p2, p3, p4⟩ := turn_small (c := c) ha ha2
  have q1 : ((turn1 c a).fmod 2147483579).natAbs < 18446744073709551616 := by omega
  unfold turn1 at p2 q1
  simp [drawTail, exs, ex, ev, rdOf, fstOf, lateOf, quiet, pers, look, keepV, readV, tkOf, bopV, p1, p2, q1, hm, turn1, turn2, turn3]
theorem exs_app : ∀ {l1 l2 : List IS} {env : En}, exs C (l1 ++ l2) env = match exs C l1 env with
    | some (.nx, env1) => exs C l2 env1
    | r => r
  | [], l2, env => by simp [exs]
  | s :: l1, l2, env => by
    rw [List.cons_append]
    simp only [exs]
    cases ex C s env with
    | none => rfl
    | some x =>
      obtain ⟨f, env1⟩ := x
      cases f with
      | nx => exact exs_app
      | bk => rfl
      | ct => rfl
      | rt d o => rfl
def drawHead : List IS := [(.ifs (.cmp .gt (.ix (.var 0) (.cst (.str "left"))) (.cst (.int 0))) [(.asg (.nm 2) (.bop .mod (.ix (.var 0) (.cst (.str "left"))) (.var 1))),
    (.set 0 (.cst (.str "left")) (.bop .fdiv (.ix (.var 0) (.cst (.str "left"))) (.var 1))),
    (.ret (.var 2))] []),
    (.asg (.nm 3) (.ix (.var 0) (.cst (.str "cells")))),
    (.asg (.nm 4) (.ix (.var 0) (.cst (.str "at")))),
    (.set 0 (.cst (.str "at")) (.bop .add (.var 4) (.cst (.int 1)))),
    (.asg (.nm 5) (.bop .add (.bop .mul (.cst (.int 40503)) (.var 4)) (.cst (.int 91)))),
    (.ifs (.cmp .ne (.var 3) (.lst [])) [(.asg (.nm 5) (.ix (.var 3) (.bop .mod (.var 4) (.bi .len (.var 3)))))] [])]
def drawMid : IS := (.ifs (.andv [(.cmp .lt (.var 4) (.bi .len (.var 3))), (.cmp .ge (.bi .abs (.var 5)) (.bop .pow (.cst (.int 10)) (.cst (.int 18))))]) [(.set 0 (.cst (.str "left")) (.bop .fdiv (.bi .abs (.var 5)) (.var 1))),
    (.ret (.bop .mod (.bi .abs (.var 5)) (.var 1)))] [])
theorem at_cell {cs : List Int} {a : Int} (hc : cs ≠ []) (ha : 0 ≤ a) : ∃ c, ixV (.list (cs.map .int)) (.int (a.fmod (cs.length : Int))) = some (.int c) := by
  have hp : 0 < (cs.length : Int) := by
    have := List.length_pos_iff.mpr hc
    omega
  obtain ⟨h1, h2⟩ := fmod_pos (x := a) hp
  generalize a.fmod (cs.length : Int) = z at h1 h2
  obtain ⟨n, rfl⟩ : ∃ n : Nat, z = n := ⟨z.toNat, by omega⟩
  have hn : n < cs.length := by omega
  refine ⟨cs[n], ?_⟩
  have e : L2.atI (cs.map PyData.int) (n : Int) = some (.int cs[n]) := L2.atI_nat (by rw [List.getElem?_map, List.getElem?_eq_getElem hn]; rfl)
  simpa [ixV] using e
theorem draw_head (hl : ¬ 0 < l) (ha : 0 ≤ a) : ∃ c, exs C drawHead [some (penD cs a l, .b), some (.int m, .p), none, none, none, none, none] =
    some (.nx, [some (penD cs (a + 1) l, .b), some (.int m, .p), none, some (.list (cs.map .int), .p), some (.int a, .p), some (.int c, .p), none]) := by
  by_cases hc : cs = []
  · subst hc
    refine ⟨40503 * a + 91, ?_⟩
    have := ne_nil []
    simp only [List.map_nil] at this
    simp [drawHead, exs, ex, ev, evs, tst, truE, rdOf, fstOf, lateOf, quiet, quiets, pers, look, keepV, readV, takeV, tkOf, pen_left, pen_at, pen_cells, pen_setA, copV, hl, truV, bopV, this, sizeLine_eq] <;> simp_all [copV]
  · obtain ⟨c, hcell⟩ := at_cell hc ha
    refine ⟨c, ?_⟩
    have h1 := ne_nil cs
    have h2 : (cs.length : Int) ≠ 0 := by
      have := List.length_pos_iff.mpr hc
      omega
    have h3 : cs.isEmpty = false := by simpa using hc
    have h4 : copV .gt (.int l) (.int 0) = some false := by simp [copV, hl]
    simp [drawHead, exs, ex, ev, evs, tst, truE, rdOf, fstOf, lateOf, quiet, quiets, pers, look, keepV, readV, takeV, tkOf, pen_left, pen_at, pen_cells, pen_setA, h4, truV, bopV, biV, h1, h2, h3, hc, hcell, sizeLine_eq]
theorem draw_step (hl : ¬ 0 < l) (hl0 : 0 ≤ l) (ha : 0 ≤ a) (ha2 : a ≤ 2147483648) (hm : 0 < m) (hm2 : m < 1073741824) :
    ∃ r l', runFn C irDraw [(penD cs a l, true), (.int m, false)] = some (.int r, false, [(penD cs (a + 1) l', true), (.int m, false)]) ∧ 0 ≤ r ∧ r < m ∧ 0 ≤ l' := by
  obtain ⟨c, hh⟩ := draw_head (cs := cs) (a := a) (l := l) (m := m) (C := C) hl ha
  have e1 : m ≠ 0 := by omega
  have e2 : m.natAbs < 1073741824 := by omega
  have body : irDraw.body = drawHead ++ (drawMid :: drawTail) := rfl
  have en : entry irDraw 0 [(penD cs a l, true), (.int m, false)] ++ List.replicate (irDraw.ns - irDraw.np) none = [some (penD cs a l, .b), some (.int m, .p), none, none, none, none, none] := by
    simp [entry, irDraw]
  have hA : (if c < 0 then -c else c) = (c.natAbs : Int) := by split <;> omega
  by_cases hb : a < (cs.length : Int) ∧ (1000000000000000000 : Int) ≤ (if c < 0 then -c else c)
  · refine ⟨((if c < 0 then -c else c) : Int).fmod m, ((if c < 0 then -c else c) : Int).fdiv m, ?_, (fmod_pos hm).1, (fmod_pos hm).2, ?_⟩
    · unfold runFn
      rw [if_pos (show [(penD cs a l, true), (PyData.int m, false)].length = irDraw.np from rfl), body, exs_app, en, hh]
      simp [drawMid, exs, ex, ev, evAnd, tst, truE, rdOf, fstOf, lateOf, quiet, pers, look, keepV, readV, takeV, tkOf, pen_setL, copV, truV, bopV, biV, hb.1, hb.2, e1, e2, fin, okFin, finals, irDraw]
    · exact Int.fdiv_nonneg (by rw [hA]; omega) (by omega)
  · refine ⟨turn3 c a m, l, ?_, (fmod_pos hm).1, (fmod_pos hm).2, hl0⟩
    unfold runFn
    rw [if_pos (show [(penD cs a l, true), (PyData.int m, false)].length = irDraw.np from rfl), body, exs_app, en, hh]
    have mid : ex C drawMid [some (penD cs (a + 1) l, .b), some (.int m, .p), none, some (.list (cs.map .int), .p), some (.int a, .p), some (.int c, .p), none] = some (.nx, [some (penD cs (a + 1) l, .b), some (.int m, .p), none, some (.list (cs.map .int), .p), some (.int a, .p), some (.int c, .p), none]) := by
      by_cases h1 : a < (cs.length : Int)
      · have h2 : ¬ (1000000000000000000 : Int) ≤ (if c < 0 then -c else c) := fun z => hb ⟨h1, z⟩
        simp [drawMid, exs, ex, ev, evAnd, tst, truE, rdOf, fstOf, lateOf, quiet, pers, look, keepV, readV, copV, truV, bopV, biV, h1, h2]
      · simp [drawMid, exs, ex, ev, evAnd, tst, truE, rdOf, fstOf, lateOf, quiet, pers, look, keepV, readV, copV, truV, bopV, biV, h1]
    simp only [exs, mid, draw_tail ha ha2 e1]
    simp [look, fin, okFin, finals, irDraw]
end
end VI
set_option maxRecDepth 100000
set_option maxHeartbeats 4000000
/-! Plain facts: the pen, loops by an invariant. -/
namespace VI
open PySem
theorem forL_inv {t : Tgt} {b : En → Option (Flw × En)} (P : Nat → En → Prop) : ∀ {xs : List PyData} {n : Nat} {env : En}, P n env →
    (∀ i x env, xs[i]? = some x → P (n + i) env → ∃ env1 env2, bind t x env = some env1 ∧ (b env1 = some (.nx, env2) ∨ b env1 = some (.ct, env2)) ∧ P (n + i + 1) env2) → ∃ env', forL t b xs env = some (.nx, env') ∧ P (n + xs.length) env'
  | [], n, env, h, _ => ⟨env, rfl, h⟩
  | x :: xs, n, env, h, st => by
    obtain ⟨env1, env2, h1, h2, h3⟩ := st 0 x env rfl h
    obtain ⟨env', h4, h5⟩ := forL_inv P (xs := xs) (n := n + 1) h3 fun i y env hy hP => by
      have := st (i + 1) y env (by simpa using hy)
      rw [show n + (i + 1) = n + 1 + i by omega] at this
      exact this hP
    refine ⟨env', ?_, by rw [List.length_cons, show n + (xs.length + 1) = n + 1 + xs.length by omega]; exact h5⟩
    simp only [forL, h1]
    rcases h2 with h2 | h2 <;> simp only [h2, h4]
theorem compL_inv {t : Tgt} {own : List Nat} {cs : En → Option (Bool × En)} {e : En → Option Res} (P : Nat → List PyData → En → Prop) : ∀ {xs : List PyData} {n : Nat} {acc : List PyData} {env : En}, P n acc env →
    (∀ i x acc env, xs[i]? = some x → P (n + i) acc env → ∃ env1 k env2, bind t x env = some env1 ∧ cs env1 = some (k, env2) ∧
      (k = false → P (n + i + 1) acc (wipeE env2 own)) ∧ (k = true → ∃ d o env3, e env2 = some (d, o, env3) ∧ acc.length < sizeLine ∧ P (n + i + 1) (acc ++ [d]) (wipeE env3 own))) →
    ∃ ds env', compL t own cs e xs acc env = some (ds, env') ∧ P (n + xs.length) ds env'
  | [], n, acc, env, h, _ => ⟨acc, env, rfl, h⟩
  | x :: xs, n, acc, env, h, st => by
    obtain ⟨env1, k, env2, h1, h2, h3, h4⟩ := st 0 x acc env rfl h
    have next : ∀ i y acc env, xs[i]? = some y → P (n + 1 + i) acc env → _ := fun i y acc env hy hP => by
      have := st (i + 1) y acc env (by simpa using hy)
      rw [show n + (i + 1) = n + 1 + i by omega] at this
      exact this hP
    cases k with
    | false =>
      obtain ⟨ds, env', h5, h6⟩ := compL_inv P (xs := xs) (n := n + 1) (h3 rfl) next
      refine ⟨ds, env', ?_, by rw [List.length_cons, show n + (xs.length + 1) = n + 1 + xs.length by omega]; exact h6⟩
      simp only [compL, h1, h2, h5]
    | true =>
      obtain ⟨d, o, env3, k1, k2, k3⟩ := h4 rfl
      obtain ⟨ds, env', h5, h6⟩ := compL_inv P (xs := xs) (n := n + 1) k3 next
      refine ⟨ds, env', ?_, by rw [List.length_cons, show n + (xs.length + 1) = n + 1 + xs.length by omega]; exact h6⟩
      simp only [compL, h1, h2, k1, if_pos k2, h5]
/-- what a pen draws -/
theorem draw_ok {C : CallF} {cs : List Int} {a l m : Int} (hl : 0 ≤ l) (ha : 0 ≤ a) (ha2 : a ≤ 2147483648) (hm : 0 < m) (hm2 : m < 1073741824) :
    ∃ r a' l', runFn C irDraw [(penD cs a l, true), (.int m, false)] = some (.int r, false, [(penD cs a' l', true), (.int m, false)]) ∧ 0 ≤ r ∧ r < m ∧ a ≤ a' ∧ a' ≤ a + 1 ∧ 0 ≤ l' := by
  by_cases h : 0 < l
  · exact ⟨_, a, _, draw_left h hm hm2, (fmod_pos hm).1, (fmod_pos hm).2, Int.le_refl _, by omega, Int.fdiv_nonneg (by omega) (by omega)⟩
  · obtain ⟨r, l', e, h1, h2, h3⟩ := draw_step (C := C) (cs := cs) h hl ha ha2 hm hm2
    exact ⟨r, a + 1, l', e, h1, h2, by omega, Int.le_refl _, h3⟩
end VI
set_option maxRecDepth 100000
set_option maxHeartbeats 4000000
namespace VI
open PySem
theorem cut63 {xs : List PyData} (h : xs.length ≤ 63) : cutD xs none (some 63) = xs := by
  unfold cutD
  have e1 : HT.sIx xs.length 0 none = 0 := HT.sIx_none ..
  have e2 : HT.sIx xs.length xs.length (some 63) = min 63 xs.length := HT.sIx_nat xs.length xs.length 63
  rw [e1, e2, List.drop_zero, Nat.min_eq_right h]
  simp
theorem pair3 {x y z : PyData} : pairUp [.str "cells", x, .str "at", y, .str "left", z] [] = some [(.str "cells", x), (.str "at", y), (.str "left", z)] := by rfl
theorem pen_ok {C : CallF} {ns : List Int} (h : ns.length ≤ 63) : runFn C irPen [(.list (ns.map .int), false)] = some (penD ns 0 0, true, [(.list (ns.map .int), false)]) := by
  have e := cut63 (xs := ns.map .int) (by simpa using h)
  simp [runFn, irPen, exs, ex, ev, evs, evO, entry, rdOf, fstOf, lateOf, quiet, quietO, pers, look, readV, tkOf, slV, e, biV, pair3, fin, okFin, finals, penD]
end VI
set_option maxRecDepth 100000
set_option maxHeartbeats 4000000
/-! Contracts of defs; loops over encoded data. -/
namespace VI
open PySem
abbrev T (l : List Int) : PyData := .tuple (l.map .int)
abbrev TL (ls : List (List Int)) : PyData := .list (ls.map T)
theorem call_at {Γ : List Fn} {f k : Nat} {fn : Fn} (h : Γ[f]? = some fn) {args : List (PyData × Bool)} : call Γ (k + 1) f args = runFn (call Γ k) fn args := by simp [call, h]
/-- from level n on -/
def Lev (Γ : List Fn) (n : Nat) (X : CallF → Prop) : Prop := ∀ k, n ≤ k → X (call Γ k)
theorem lev_of {Γ : List Fn} {n : Nat} {X : CallF → Prop} (H : ∀ k, n ≤ k → X (call Γ (k + 1))) : Lev Γ (n + 1) X := by
  intro k hk
  obtain ⟨j, rfl⟩ : ∃ j, k = j + 1 := ⟨k - 1, by omega⟩
  exact H j (by omega)
theorem Lev.mono {Γ : List Fn} {n n' : Nat} {X : CallF → Prop} (h : Lev Γ n X) (hn : n ≤ n') : Lev Γ n' X := fun k hk => h k (Nat.le_trans hn hk)
theorem compL_gen {α : Type} {t : Tgt} {own : List Nat} {cs : En → Option (Bool × En)} {e : En → Option Res} (enc : α → PyData) (p : α → Bool) (g : α → PyData) (P : En → Prop) :
    ∀ {ys : List α} {acc : List PyData} {env : En}, P env → (∀ y ∈ ys, ∀ env, P env → ∃ env1 env2, bind t (enc y) env = some env1 ∧ cs env1 = some (p y, env2) ∧
      (p y = false → P (wipeE env2 own)) ∧ (p y = true → ∃ o env3, e env2 = some (g y, o, env3) ∧ P (wipeE env3 own))) → acc.length + ys.length ≤ sizeLine →
    ∃ env', compL t own cs e (ys.map enc) acc env = some (acc ++ (ys.filter p).map g, env') ∧ P env'
  | [], acc, env, h, _, _ => ⟨env, by simp [compL], h⟩
  | y :: ys, acc, env, h, st, hl => by
    rw [List.length_cons] at hl
    obtain ⟨env1, env2, h1, h2, h3, h4⟩ := st y (List.mem_cons_self ..) env h
    have st' := fun z hz => st z (List.mem_cons_of_mem _ hz)
    cases hp : p y with
    | false =>
      obtain ⟨env', h5, h6⟩ := compL_gen enc p g P (ys := ys) (acc := acc) (h3 hp) st' (by omega)
      rw [hp] at h2
      exact ⟨env', by simp [compL, h1, h2, h5, List.filter_cons, hp], h6⟩
    | true =>
      obtain ⟨o, env3, k1, k2⟩ := h4 hp
      obtain ⟨env', h5, h6⟩ := compL_gen enc p g P (ys := ys) (acc := acc ++ [g y]) k2 st' (by simp; omega)
      rw [hp] at h2
      have hs : acc.length < sizeLine := by omega
      exact ⟨env', by simp [compL, h1, h2, k1, hs, h5, List.filter_cons, hp], h6⟩
/-- a comprehension whose turns leave the names as they were -/
theorem compL_pure {α : Type} {t : Tgt} {own : List Nat} {cs : En → Option (Bool × En)} {e : En → Option Res} (enc : α → PyData) (p : α → Bool) (g : α → PyData)
    {ys : List α} {acc : List PyData} {env : En} (st : ∀ y ∈ ys, ∃ env1 env2, bind t (enc y) env = some env1 ∧ cs env1 = some (p y, env2) ∧
      (p y = false → wipeE env2 own = env) ∧ (p y = true → ∃ o env3, e env2 = some (g y, o, env3) ∧ wipeE env3 own = env)) (hl : acc.length + ys.length ≤ sizeLine) :
    compL t own cs e (ys.map enc) acc env = some (acc ++ (ys.filter p).map g, env) := by
  obtain ⟨env', h1, h2⟩ := compL_gen (own := own) enc p g (fun x => x = env) (ys := ys) (acc := acc) rfl (fun y hy env' h => by subst h; exact st y hy) hl
  rw [h1, h2]
theorem compL_map {α : Type} {C : CallF} {t : Tgt} {own : List Nat} {e : En → Option Res} (enc : α → PyData) (g : α → PyData)
    {ys : List α} {acc : List PyData} {env : En} (st : ∀ y ∈ ys, ∃ env1 o env3, bind t (enc y) env = some env1 ∧ e env1 = some (g y, o, env3) ∧ wipeE env3 own = env)
    (hl : acc.length + ys.length ≤ sizeLine) : compL t own (evCs C []) e (ys.map enc) acc env = some (acc ++ ys.map g, env) := by
  have := compL_pure (t := t) (own := own) (cs := evCs C []) (e := e) enc (fun _ => true) g (ys := ys) (acc := acc) (env := env) (fun y hy => by
    obtain ⟨env1, o, env3, h1, h2, h3⟩ := st y hy
    exact ⟨env1, env1, h1, by simp [evCs], by simp, fun _ => ⟨o, env3, h2, h3⟩⟩) hl
  rw [this, List.filter_eq_self.2 (by simp)]
theorem forL_fold {α σ : Type} {t : Tgt} {b : En → Option (Flw × En)} (enc : α → PyData) (P : σ → En → Prop) (f : σ → α → σ) : ∀ {ys : List α} {s : σ} {env : En}, P s env →
    (∀ y ∈ ys, ∀ s env, P s env → ∃ env1 env2, bind t (enc y) env = some env1 ∧ (b env1 = some (.nx, env2) ∨ b env1 = some (.ct, env2)) ∧ P (f s y) env2) →
    ∃ env', forL t b (ys.map enc) env = some (.nx, env') ∧ P (ys.foldl f s) env'
  | [], s, env, h, _ => ⟨env, rfl, h⟩
  | y :: ys, s, env, h, st => by
    obtain ⟨env1, env2, h1, h2, h3⟩ := st y (List.mem_cons_self ..) s env h
    obtain ⟨env', h4, h5⟩ := forL_fold enc P f (ys := ys) h3 fun z hz => st z (List.mem_cons_of_mem _ hz)
    refine ⟨env', ?_, h5⟩
    simp only [List.map_cons, forL, h1]
    rcases h2 with h2 | h2 <;> simp only [h2, h4]
/-- a loop that ends with the first one that is so -/
theorem forL_find {α : Type} {t : Tgt} {b : En → Option (Flw × En)} (enc : α → PyData) (p : α → Bool) (r : α → PyData) (o : α → Bool) (P Q : En → Prop) : ∀ {ys : List α} {env : En}, P env →
    (∀ y ∈ ys, ∀ env, P env → ∃ env1 env2, bind t (enc y) env = some env1 ∧ (p y = false → (b env1 = some (.nx, env2) ∨ b env1 = some (.ct, env2)) ∧ P env2) ∧
      (p y = true → b env1 = some (.rt (r y) (o y), env2) ∧ Q env2)) →
    match ys.find? p with
    | none => ∃ env', forL t b (ys.map enc) env = some (.nx, env') ∧ P env'
    | some y => ∃ env', forL t b (ys.map enc) env = some (.rt (r y) (o y), env') ∧ Q env'
  | [], env, h, _ => ⟨env, rfl, h⟩
  | y :: ys, env, h, st => by
    obtain ⟨env1, env2, h1, h2, h3⟩ := st y (List.mem_cons_self ..) env h
    rw [List.find?_cons]
    cases hp : p y with
    | true =>
      obtain ⟨h4, h5⟩ := h3 hp
      exact ⟨env2, by simp only [List.map_cons, forL, h1, h4], h5⟩
    | false =>
      obtain ⟨h4, h5⟩ := h2 hp
      have ih := forL_find enc p r o P Q (ys := ys) h5 fun z hz => st z (List.mem_cons_of_mem _ hz)
      have e : forL t b ((y :: ys).map enc) env = forL t b (ys.map enc) env2 := by
        simp only [List.map_cons, forL, h1]
        rcases h4 with h4 | h4 <;> simp only [h4]
      simp only [e]
      exact ih
@[simp] theorem filt_none {α : Type} (l : List α) : l.filter (fun _ => false) = [] := by induction l <;> simp_all
@[simp] theorem filt_all {α : Type} (l : List α) : l.filter (fun _ => true) = l := by induction l <;> simp_all
theorem rngD0 (n : Int) : rngD 0 n = (List.range n.toNat).map fun (i : Nat) => PyData.int i := by simp [rngD]
theorem sizeLine_big {n : Nat} (h : n ≤ 1000000) : n ≤ sizeLine := by
  rw [sizeLine_eq]
  omega
/-- a loop, by what holds behind each beginning -/
theorem forL_pre {α : Type} {t : Tgt} {b : En → Option (Flw × En)} (enc : α → PyData) (P : List α → En → Prop) {all : List α} : ∀ {ys pre : List α} {env : En}, pre ++ ys = all → P pre env →
    (∀ pre y post env, all = pre ++ y :: post → P pre env → ∃ env1 env2, bind t (enc y) env = some env1 ∧ (b env1 = some (.nx, env2) ∨ b env1 = some (.ct, env2)) ∧ P (pre ++ [y]) env2) →
    ∃ env', forL t b (ys.map enc) env = some (.nx, env') ∧ P all env'
  | [], pre, env, ha, h, _ => ⟨env, rfl, by rw [List.append_nil] at ha; exact ha ▸ h⟩
  | y :: ys, pre, env, ha, h, st => by
    obtain ⟨env1, env2, h1, h2, h3⟩ := st pre y ys env ha.symm h
    obtain ⟨env', h4, h5⟩ := forL_pre enc P (ys := ys) (pre := pre ++ [y]) (by rw [← ha]; simp) h3 st
    refine ⟨env', ?_, h5⟩
    simp only [List.map_cons, forL, h1]
    rcases h2 with h2 | h2 <;> simp only [h2, h4]
/-- a comprehension that draws -/
theorem compL_draw {α β : Type} {C : CallF} {t : Tgt} {own : List Nat} {e : En → Option Res} (enc : α → PyData) (enc' : β → PyData) (R : α → β → Prop) (P : Nat → En → Prop) :
    ∀ {ys : List α} {acc : List PyData} {j : Nat} {env : En}, P j env →
    (∀ i y env, ys[i]? = some y → P (j + i) env → ∃ env1 r o env3, bind t (enc y) env = some env1 ∧ e env1 = some (enc' r, o, env3) ∧ R y r ∧ P (j + i + 1) (wipeE env3 own)) → acc.length + ys.length ≤ sizeLine →
    ∃ (rs : List β) (env' : En), compL t own (evCs C []) e (ys.map enc) acc env = some (acc ++ rs.map enc', env') ∧ rs.length = ys.length ∧ (∀ (i : Nat) (y : α) (r : β), ys[i]? = some y → rs[i]? = some r → R y r) ∧ P (j + ys.length) env'
  | [], acc, j, env, h, _, _ => ⟨[], env, by simp [compL], rfl, by simp, h⟩
  | y :: ys, acc, j, env, h, st, hl => by
    rw [List.length_cons] at hl
    obtain ⟨env1, r, o, env3, h1, h2, h3, h4⟩ := st 0 y env rfl h
    obtain ⟨rs, env', k1, k2, k3, k4⟩ := compL_draw (C := C) enc enc' R P (ys := ys) (acc := acc ++ [enc' r]) (j := j + 1) h4 (fun i z env hz hP => by
      have := st (i + 1) z env (by simpa using hz)
      rw [show j + (i + 1) = j + 1 + i by omega] at this
      exact this hP) (by simp; omega)
    have hs : acc.length < sizeLine := by omega
    refine ⟨r :: rs, env', ?_, by simp [k2], ?_, by rw [List.length_cons, show j + (ys.length + 1) = j + 1 + ys.length by omega]; exact k4⟩
    · have e0 : evCs C [] env1 = some (true, env1) := rfl
      simp only [List.map_cons, compL, h1, e0, h2, if_pos hs, k1, List.append_assoc, List.singleton_append]
    · intro i z r' hz hr
      cases i with
      | zero => simp at hz hr; subst hz; subst hr; exact h3
      | succ i => exact k3 i z r' (by simpa using hz) (by simpa using hr)
theorem compL_draws {α β : Type} {C : CallF} {t : Tgt} {own : List Nat} {e : En → Option Res} (enc : α → PyData) (enc' : β → PyData) (R : β → Prop) (P : Nat → En → Prop)
    {ys : List α} {acc : List PyData} {j : Nat} {env : En} (h : P j env)
    (st : ∀ i y env, ys[i]? = some y → P (j + i) env → ∃ env1 r o env3, bind t (enc y) env = some env1 ∧ e env1 = some (enc' r, o, env3) ∧ R r ∧ P (j + i + 1) (wipeE env3 own)) (hl : acc.length + ys.length ≤ sizeLine) :
    ∃ (rs : List β) (env' : En), compL t own (evCs C []) e (ys.map enc) acc env = some (acc ++ rs.map enc', env') ∧ rs.length = ys.length ∧ (∀ r ∈ rs, R r) ∧ P (j + ys.length) env' := by
  obtain ⟨rs, env', h1, h2, h3, h4⟩ := compL_draw (C := C) enc enc' (fun _ r => R r) P h st hl
  refine ⟨rs, env', h1, h2, fun r hr => ?_, h4⟩
  obtain ⟨j, hj, rfl⟩ := List.getElem_of_mem hr
  exact h3 j _ _ (List.getElem?_eq_getElem (h2 ▸ hj)) (List.getElem?_eq_getElem hj)
/-! ### the pen -/
def PenOK (d : PyData) (i : Nat) : Prop := ∃ cs a l, d = penD cs a l ∧ 0 ≤ l ∧ 0 ≤ a ∧ a ≤ (i : Int)
def DrawC (f : Nat) (C : CallF) : Prop := ∀ d i (m : Int), PenOK d i → i ≤ 2147483648 → 0 < m → m < 1073741824 →
  ∃ r d', C f [(d, true), (.int m, false)] = some (.int r, false, [(d', true), (.int m, false)]) ∧ 0 ≤ r ∧ r < m ∧ PenOK d' (i + 1)
theorem draw_lev {Γ : List Fn} {f : Nat} (hf : Γ[f]? = some irDraw) : Lev Γ 1 (DrawC f) := by
  refine lev_of (n := 0) fun k _ => ?_
  rintro d i m ⟨cs, a, l, hd, hl, ha, ha2⟩ hi hm hm2
  subst hd
  obtain ⟨r, a', l', h1, h2, h3, h4, h5, h6⟩ := draw_ok (C := call Γ k) (cs := cs) hl ha (by omega) hm hm2
  exact ⟨r, penD cs a' l', by rw [call_at hf, h1], h2, h3, cs, a', l', rfl, h6, by omega, by omega⟩
theorem PenOK.le {d : PyData} {i j : Nat} (h : PenOK d i) (hj : i ≤ j) : PenOK d j := by
  obtain ⟨cs, a, l, h1, h2, h3, h4⟩ := h
  exact ⟨cs, a, l, h1, h2, h3, by omega⟩
def PenC (f : Nat) (C : CallF) : Prop := ∀ ns : List Int, ns.length ≤ 63 → ∃ d, C f [(.list (ns.map .int), false)] = some (d, true, [(.list (ns.map .int), false)]) ∧ PenOK d 0
theorem pen_lev {Γ : List Fn} {f : Nat} (hf : Γ[f]? = some irPen) : Lev Γ 1 (PenC f) :=
  lev_of (n := 0) fun k _ ns h => ⟨penD ns 0 0, by rw [call_at hf, pen_ok h], ns, 0, 0, rfl, by omega, by omega, by omega⟩
@[simp] theorem sl1 : 1 ≤ sizeLine := sizeLine_big (by decide)
@[simp] theorem sl2 : 2 ≤ sizeLine := sizeLine_big (by decide)
@[simp] theorem sl3 : 3 ≤ sizeLine := sizeLine_big (by decide)
@[simp] theorem sl4 : 4 ≤ sizeLine := sizeLine_big (by decide)
@[simp] theorem sl5 : 5 ≤ sizeLine := sizeLine_big (by decide)
@[simp] theorem sl6 : 6 ≤ sizeLine := sizeLine_big (by decide)
@[simp] theorem sl7 : 7 ≤ sizeLine := sizeLine_big (by decide)
@[simp] theorem sl8 : 8 ≤ sizeLine := sizeLine_big (by decide)
@[simp] theorem sl9 : 9 ≤ sizeLine := sizeLine_big (by decide)
@[simp] theorem sl10 : 10 ≤ sizeLine := sizeLine_big (by decide)
@[simp] theorem sl11 : 11 ≤ sizeLine := sizeLine_big (by decide)
@[simp] theorem sl12 : 12 ≤ sizeLine := sizeLine_big (by decide)
@[simp] theorem sl0 : 0 < sizeLine := sl1
/-! ### rooms -/
def ir_is_whole : Fn := ⟨1, 1,
   [(.ret (.andv [(.inst (.var 0) ["int"]), (.nt (.inst (.var 0) ["bool"]))]))], []⟩
def ir_is_from (f_is_whole : Nat) : Fn := ⟨3, 3,
   [(.ret (.andv [(.call f_is_whole [(.var 0)]), (.chn .le .le (.var 1) (.var 0) (.var 2))]))], []⟩
def ir_is_row : Fn := ⟨3, 3,
   [(.ret (.andv [(.inst (.var 0) ["tuple"]), (.chn .le .le (.var 1) (.bi .len (.var 0)) (.var 2))]))], []⟩
def isWhole : PyData → Bool
  | .int _ => true
  | _ => false
def isFrom (x : PyData) (lo hi : Int) : Bool := match x with
  | .int i => decide (lo ≤ i) && decide (i ≤ hi)
  | _ => false
def isRow (x : PyData) (lo hi : Int) : Bool := match x with
  | .tuple xs => decide (lo ≤ (xs.length : Int)) && decide ((xs.length : Int) ≤ hi)
  | _ => false
def IsWholeC (f : Nat) (C : CallF) : Prop := ∀ x m, C f [(x, m)] = some (.bool (isWhole x), false, [(x, m)])
def IsFromC (f : Nat) (C : CallF) : Prop := ∀ x m lo hi, C f [(x, m), (.int lo, false), (.int hi, false)] = some (.bool (isFrom x lo hi), false, [(x, m), (.int lo, false), (.int hi, false)])
def IsRowC (f : Nat) (C : CallF) : Prop := ∀ x m lo hi, C f [(x, m), (.int lo, false), (.int hi, false)] = some (.bool (isRow x lo hi), false, [(x, m), (.int lo, false), (.int hi, false)])
section
variable {Γ : List Fn} {f n f_is_whole f_is_row f_is_from : Nat}
theorem isWhole_lev (hf : Γ[f]? = some ir_is_whole) : Lev Γ 1 (IsWholeC f) := by
  refine lev_of (n := 0) fun k _ x m => ?_
  rw [call_at hf]
  cases m <;> cases x <;> simp [ir_is_whole, runFn, exs, ex, ev, evs, evArgs, evO, evAnd, evOr, evIt, entry, tst, truE, rdOf, tkOf, fstOf, lateOf, quiet, quiets, quietO, pers, look, keepV, readV, takeV, copV, bopV, biV, bi2V, truV, fin, okFin, finals, callNow, argsNow, argNow, lent, back, hidOf, hid2Of, VI.bind, VI.binds, tgs, tgss, asgI, asgs, wipeE, unset, keepP, items, isiV, tyIs, tyN, isWhole]
theorem isFrom_lev (hf : Γ[f]? = some (ir_is_from f_is_whole)) (h1 : Lev Γ n (IsWholeC f_is_whole)) : Lev Γ (n + 1) (IsFromC f) := by
  refine lev_of fun k hk x m lo hi => ?_
  rw [call_at hf]
  have e1 := h1 k hk
  unfold IsWholeC at e1
  cases x with
  | int i => by_cases h : lo ≤ i <;> cases m <;> simp [ir_is_from, runFn, exs, ex, ev, evs, evArgs, evO, evAnd, evOr, evIt, entry, tst, truE, rdOf, tkOf, fstOf, lateOf, quiet, quiets, quietO, pers, look, keepV, readV, takeV, copV, bopV, biV, bi2V, truV, fin, okFin, finals, callNow, argsNow, argNow, lent, back, hidOf, hid2Of, VI.bind, VI.binds, tgs, tgss, asgI, asgs, wipeE, unset, keepP, items, e1, isWhole, isFrom, h]
  | _ => cases m <;> simp [ir_is_from, runFn, exs, ex, ev, evs, evArgs, evO, evAnd, evOr, evIt, entry, tst, truE, rdOf, tkOf, fstOf, lateOf, quiet, quiets, quietO, pers, look, keepV, readV, takeV, copV, bopV, biV, bi2V, truV, fin, okFin, finals, callNow, argsNow, argNow, lent, back, hidOf, hid2Of, VI.bind, VI.binds, tgs, tgss, asgI, asgs, wipeE, unset, keepP, items, e1, isWhole, isFrom]
theorem isRow_lev (hf : Γ[f]? = some ir_is_row) : Lev Γ 1 (IsRowC f) := by
  refine lev_of (n := 0) fun k hk x m lo hi => ?_
  rw [call_at hf]
  cases x with
  | tuple xs => by_cases h : lo ≤ (xs.length : Int) <;> cases m <;> simp [ir_is_row, runFn, exs, ex, ev, evs, evArgs, evO, evAnd, evOr, evIt, entry, tst, truE, rdOf, tkOf, fstOf, lateOf, quiet, quiets, quietO, pers, look, keepV, readV, takeV, copV, bopV, biV, bi2V, truV, fin, okFin, finals, callNow, argsNow, argNow, lent, back, hidOf, hid2Of, VI.bind, VI.binds, tgs, tgss, asgI, asgs, wipeE, unset, keepP, items, isiV, tyIs, tyN, isRow, h]
  | _ => cases m <;> simp [ir_is_row, runFn, exs, ex, ev, evs, evArgs, evO, evAnd, evOr, evIt, entry, tst, truE, rdOf, tkOf, fstOf, lateOf, quiet, quiets, quietO, pers, look, keepV, readV, takeV, copV, bopV, biV, bi2V, truV, fin, okFin, finals, callNow, argsNow, argNow, lent, back, hidOf, hid2Of, VI.bind, VI.binds, tgs, tgss, asgI, asgs, wipeE, unset, keepP, items, isiV, tyIs, tyN, isRow]
end
end VI
set_option maxRecDepth 100000
set_option maxHeartbeats 4000000
/-! Rooms and facts. -/
namespace VI
open PySem
/-- 0:room 1:thing 2:worth 3:many -/
def ir_is_facts_e1 (f_is_from : Nat) : IE := (.call f_is_from [(.var 2), (.cst (.int 0)), (.bop .sub (.var 3) (.cst (.int 1)))])
def ir_is_facts (f_is_row f_is_from : Nat) : Fn := ⟨2, 4,
   [(.ifs (.nt (.call f_is_row [(.var 1), (.bi .len (.var 0)), (.bi .len (.var 0))])) [(.ret (.cst (.bool false)))] []),
    (.ret (.bi .all (.cmpr (ir_is_facts_e1 f_is_from) (.tp [(.nm 2), (.nm 3)]) (.zip (.var 1) (.var 0)) [])))], []⟩
/-- 0:room 1:found 2:many 3:longer 4:facts 5:worth -/
def ir_all_facts_e1 : IE := (.bop .add (.var 4) (.tup [(.var 5)]))
def ir_all_facts_b1 : List IS := [(.ex (.mu .extend 3 [(.cmpr ir_all_facts_e1 (.nm 5) (.rng1 (.var 2)) [])]))]
def ir_all_facts_b2 : List IS := [(.asg (.nm 3) (.lst [])),
    (.for_ (.nm 4) (.hid 1) ir_all_facts_b1),
    (.asg (.nm 1) (.var 3))]
@[simp] theorem ir_all_facts_b1_asgs : asgs ir_all_facts_b1 = [] := by rfl
@[simp] theorem ir_all_facts_b2_asgs : asgs ir_all_facts_b2 = [3, 4, 1] := by rfl
def ir_all_facts : Fn := ⟨1, 6,
   [(.asg (.nm 1) (.lst [(.tup [])])),
    (.for_ (.nm 2) (.hid 0) ir_all_facts_b2),
    (.ret (.var 1))], [1, 2, 3, 4, 1]⟩
/-- 0:_law_room 1:_law_many 2:_law_worths 3:_law_found 4:_law_number 5:_law_facts_here -/
def ir_law_facts_digits_b1 : List IS := [(.asg (.nm 1) (.bop .mul (.var 1) (.var 2)))]
def ir_law_facts_digits_b2 : List IS := [(.asg (.nm 5) (.bop .add (.tup [(.bop .mod (.var 4) (.var 2))]) (.var 5))),
    (.asg (.nm 4) (.bop .fdiv (.var 4) (.var 2)))]
def ir_law_facts_digits_b3 : List IS := [(.asg (.nm 5) (.tup [])),
    (.for_ (.nm 2) (.val (.rev (.var 0))) ir_law_facts_digits_b2),
    (.ex (.mu .append 3 [(.var 5)]))]
@[simp] theorem ir_law_facts_digits_b1_asgs : asgs ir_law_facts_digits_b1 = [1] := by rfl
@[simp] theorem ir_law_facts_digits_b2_asgs : asgs ir_law_facts_digits_b2 = [5, 4] := by rfl
@[simp] theorem ir_law_facts_digits_b3_asgs : asgs ir_law_facts_digits_b3 = [5, 2, 5, 4] := by rfl
def ir_law_facts_digits : Fn := ⟨1, 6,
   [(.asg (.nm 1) (.cst (.int 1))),
    (.for_ (.nm 2) (.hid 0) ir_law_facts_digits_b1),
    (.asg (.nm 3) (.lst [])),
    (.for_ (.nm 4) (.rng1 (.var 1)) ir_law_facts_digits_b3),
    (.ret (.var 3))], [1, 2, 1, 3, 4, 5, 2, 5, 4]⟩
/-- 0:_law_pen_here 1:_law_k -/
def ir__law_room_e1 (f__law_draw : Nat) : IE := (.bop .add (.cst (.int 2)) (.call f__law_draw [(.var 0), (.cst (.int 3))]))
def ir__law_room (f__law_draw : Nat) : Fn := ⟨1, 2,
   [(.ret (.bi .tuple (.cmpr (ir__law_room_e1 f__law_draw) (.nm 1) (.rng1 (.bop .add (.cst (.int 1)) (.call f__law_draw [(.var 0), (.cst (.int 3))]))) [])))], []⟩
/-- 0:thing 1:many -/
def ir_is_room_e1 (f_is_from : Nat) : IE := (.call f_is_from [(.var 1), (.glb "LEAST_WORTHS" (.int 2)), (.glb "MOST_WORTHS" (.int 4))])
def ir_is_room (f_is_row f_is_from : Nat) : Fn := ⟨1, 2,
   [(.ret (.andv [(.call f_is_row [(.var 0), (.cst (.int 1)), (.glb "MOST_TRAITS" (.int 3))]), (.bi .all (.cmpr (ir_is_room_e1 f_is_from) (.nm 1) (.hid 0) []))]))], []⟩
def ext (w : Int) (facts : List Int) : List (List Int) := (List.range w.toNat).map fun (i : Nat) => facts ++ [(i : Int)]
def allFacts (room : List Int) : List (List Int) := room.foldl (fun found w => found.flatMap (ext w)) [[]]
theorem ext_len (w : Int) (facts : List Int) : (ext w facts).length = w.toNat := by simp [ext]
theorem flatMap_len (w : Int) : ∀ (found : List (List Int)), (found.flatMap (ext w)).length = found.length * w.toNat
  | [] => by simp
  | f :: fs => by rw [List.flatMap_cons, List.length_append, ext_len, flatMap_len w fs, List.length_cons, Nat.add_mul]; omega
theorem allFacts_snoc (pre : List Int) (w : Int) : allFacts (pre ++ [w]) = (allFacts pre).flatMap (ext w) := by simp [allFacts]
def IsRoom (room : List Int) : Prop := 1 ≤ room.length ∧ room.length ≤ 3 ∧ ∀ w ∈ room, 2 ≤ w ∧ w ≤ 4
theorem allFacts_len {pre : List Int} (h : ∀ w ∈ pre, 2 ≤ w ∧ w ≤ 4) : (allFacts pre).length ≤ 4 ^ pre.length := by
  suffices ∀ (l : List Int) (acc : List (List Int)), (∀ w ∈ l, 2 ≤ w ∧ w ≤ 4) → (l.foldl (fun found w => found.flatMap (ext w)) acc).length ≤ acc.length * 4 ^ l.length by
    simpa [allFacts] using this pre [[]] h
  intro l
  induction l with
  | nil => intro acc _; simp
  | cons w l ih =>
    intro acc h
    have hw := h w (List.mem_cons_self ..)
    have := ih (acc.flatMap (ext w)) fun z hz => h z (List.mem_cons_of_mem _ hz)
    rw [List.foldl_cons]
    refine Nat.le_trans this ?_
    rw [flatMap_len, List.length_cons, Nat.pow_succ, Nat.mul_assoc, Nat.mul_comm (4 ^ l.length) 4]
    exact Nat.mul_le_mul_left _ (Nat.mul_le_mul_right _ (by omega))
theorem allFacts_64 {pre room : List Int} (hr : IsRoom room) (h : pre <+: room) : (allFacts pre).length ≤ 64 := by
  obtain ⟨post, rfl⟩ := h
  have h1 := hr.2.1
  rw [List.length_append] at h1
  have h2 : 4 ^ pre.length ≤ 4 ^ 3 := Nat.pow_le_pow_right (by decide) (by omega)
  exact Nat.le_trans (allFacts_len fun w hw => hr.2.2 w (List.mem_append_left _ hw)) h2
def AllFactsC (f : Nat) (C : CallF) : Prop := ∀ room, IsRoom room → C f [(T room, false)] = some (TL (allFacts room), true, [(T room, false)])
section
variable {Γ : List Fn} {f n n1 n2 f_is_whole f_is_row f_is_from : Nat} {C : CallF}
theorem allFacts_mem {pre : List Int} : ∀ f ∈ allFacts pre, f.length = pre.length := by
  suffices ∀ (l : List Int) (acc : List (List Int)) (m : Nat), (∀ f ∈ acc, f.length = m) → ∀ f ∈ l.foldl (fun found w => found.flatMap (ext w)) acc, f.length = m + l.length by
    intro f hf
    simpa using this pre [[]] 0 (by simp) f hf
  intro l
  induction l with
  | nil => intro acc m h f hf; simpa using h f hf
  | cons w l ih =>
    intro acc m h f hf
    rw [List.foldl_cons] at hf
    have := ih _ (m + 1) (by
      intro g hg
      obtain ⟨a, ha, hg⟩ := List.mem_flatMap.1 hg
      simp only [ext, List.mem_map, List.mem_range] at hg
      obtain ⟨i, _, rfl⟩ := hg
      simp [h a ha]) f hf
    rw [this, List.length_cons]; omega
theorem ext_comp {s0 s1 s3 : Slot} {w : Int} {facts : List Int} (hw : w ≤ 4) (hl : facts.length ≤ 1000) : compL (.nm 5) [5] (evCs C []) (ev C ir_all_facts_e1) (rngD 0 w) [] [s0, s1, some (.int w, .p), s3, some (T facts, .p), none] =
    some ((ext w facts).map T, [s0, s1, some (.int w, .p), s3, some (T facts, .p), none]) := by
  rw [rngD0]
  have hs : facts.length + 1 ≤ sizeLine := sizeLine_big (by omega)
  have := compL_map (C := C) (t := .nm 5) (own := [5]) (e := ev C ir_all_facts_e1) (fun (i : Nat) => PyData.int i) (fun (i : Nat) => T (facts ++ [(i : Int)])) (ys := List.range w.toNat) (acc := [])
    (env := [s0, s1, some (.int w, .p), s3, some (T facts, .p), none]) (fun i hi => by
      refine ⟨_, false, [s0, s1, some (.int w, .p), s3, some (T facts, .p), some (.int i, .p)], rfl, ?_, rfl⟩
      simp [ir_all_facts_e1, runFn, exs, ex, ev, evs, evArgs, evO, evAnd, evOr, evIt, entry, tst, truE, rdOf, tkOf, fstOf, lateOf, quiet, quiets, quietO, pers, look, keepV, readV, takeV, copV, bopV, biV, bi2V, truV, fin, okFin, finals, callNow, argsNow, argNow, lent, back, hidOf, hid2Of, VI.bind, VI.binds, tgs, tgss, asgI, asgs, wipeE, unset, keepP, items, hs]) (sizeLine_big (by simp; omega))
  rw [this]
  simp [ext]
theorem af_inner {found : List (List Int)} {s0 s4 : Slot} {w : Int} (h1 : 0 ≤ w) (h2 : w ≤ 4) (hl : ∀ f ∈ found, f.length ≤ 1000) (hf : found.length ≤ 64) : ∃ s4',
    forL (.nm 4) (exs C ir_all_facts_b1) (found.map T) [s0, none, some (.int w, .p), some (.list [], .o), s4, none] =
      some (.nx, [s0, none, some (.int w, .p), some (TL (found.flatMap (ext w)), .o), s4', none]) := by
  obtain ⟨env', h3, s4', h4⟩ := forL_pre (t := .nm 4) (b := exs C ir_all_facts_b1) T (fun pre env => ∃ s4, env = [s0, none, some (.int w, .p), some (TL (pre.flatMap (ext w)), .o), s4, none]) (all := found) (ys := found) (pre := [])
    (env := [s0, none, some (.int w, .p), some (.list [], .o), s4, none]) rfl ⟨s4, rfl⟩ (by
      rintro pre y post env ha ⟨s4, rfl⟩
      have hy : y ∈ found := by rw [ha]; simp
      have hc := ext_comp (C := C) (s0 := s0) (s1 := none) (s3 := some (TL (pre.flatMap (ext w)), .o)) h2 (hl y hy)
      have hi : int62 w = true := by simp [int62]; omega
      have hpl : pre.length + 1 ≤ 64 := by
        have := congrArg List.length ha
        simp at this; omega
      have hsz : (pre.flatMap (ext w)).length + (ext w y).length ≤ sizeLine := by
        rw [flatMap_len, ext_len]
        have : pre.length * w.toNat ≤ 64 * 4 := Nat.mul_le_mul (by omega) (by omega)
        exact sizeLine_big (by omega)
      refine ⟨_, _, rfl, Or.inl ?_, some (T y, .p), rfl⟩
      simp only [List.length_flatMap] at hsz
      simp [ir_all_facts_b1, runFn, exs, ex, ev, evs, evArgs, evO, evAnd, evOr, evIt, entry, tst, truE, rdOf, tkOf, fstOf, lateOf, quiet, quiets, quietO, pers, look, keepV, readV, takeV, copV, bopV, biV, bi2V, truV, fin, okFin, finals, callNow, argsNow, argNow, lent, back, hidOf, hid2Of, VI.bind, VI.binds, tgs, tgss, asgI, asgs, wipeE, unset, keepP, items, hi, hc, muV, extendV, hsz, List.flatMap_append])
  exact ⟨s4', by rw [h3, h4]⟩
theorem af_prefix {room pre post : List Int} {y : Int} (hr : IsRoom room) (ha : room = pre ++ y :: post) : 0 ≤ y ∧ y ≤ 4 ∧ (allFacts pre).length ≤ 64 ∧ (∀ f ∈ allFacts pre, f.length ≤ 1000) ∧ (allFacts (pre ++ [y])).length ≤ 64 := by
  have hy := hr.2.2 y (by rw [ha]; simp)
  have hl := hr.2.1
  rw [ha] at hl
  simp at hl
  refine ⟨by omega, by omega, allFacts_64 hr ⟨y :: post, ha.symm⟩, fun f hf => ?_, allFacts_64 hr ⟨post, by rw [ha]; simp⟩⟩
  rw [allFacts_mem f hf]; omega
theorem allFacts_lev (hf : Γ[f]? = some ir_all_facts) : Lev Γ 1 (AllFactsC f) := by
  refine lev_of (n := 0) fun k _ room hr => ?_
  rw [call_at hf]
  obtain ⟨env', h1, s2, s3, s4, h2⟩ := forL_pre (t := .nm 2) (b := exs (call Γ k) ir_all_facts_b2) PyData.int (fun pre env => ∃ s2 s3 s4, env = [some (T room, .p), some (TL (allFacts pre), .o), s2, s3, s4, none]) (all := room) (ys := room) (pre := [])
    (env := [some (T room, .p), some (.list [.tuple []], .o), none, none, none, none]) rfl ⟨_, _, _, rfl⟩ (by
      rintro pre y post env ha ⟨s2, s3, s4, rfl⟩
      obtain ⟨h1, h2, h3, h4, h5⟩ := af_prefix hr ha
      obtain ⟨s4', hi⟩ := af_inner (C := call Γ k) (s0 := some (T room, .p)) (s4 := s4) h1 h2 h4 h3
      refine ⟨_, _, rfl, Or.inl ?_, some (.int y, .p), none, s4', rfl⟩
      simp [ir_all_facts_b2, runFn, exs, ex, ev, evs, evArgs, evO, evAnd, evOr, evIt, entry, tst, truE, rdOf, tkOf, fstOf, lateOf, quiet, quiets, quietO, pers, look, keepV, readV, takeV, copV, bopV, biV, bi2V, truV, fin, okFin, finals, callNow, argsNow, argNow, lent, back, hidOf, hid2Of, VI.bind, VI.binds, tgs, tgss, asgI, asgs, wipeE, unset, keepP, items, hi, allFacts_snoc])
  subst h2
  simp [ir_all_facts, runFn, exs, ex, ev, evs, evArgs, evO, evAnd, evOr, evIt, entry, tst, truE, rdOf, tkOf, fstOf, lateOf, quiet, quiets, quietO, pers, look, keepV, readV, takeV, copV, bopV, biV, bi2V, truV, fin, okFin, finals, callNow, argsNow, argNow, lent, back, hidOf, hid2Of, VI.bind, VI.binds, tgs, tgss, asgI, asgs, wipeE, unset, keepP, items, h1]
/-! ### is_facts, is_room -/
def isFacts (room : List Int) (x : PyData) : Bool := match x with
  | .tuple xs => decide (xs.length = room.length) && (xs.zip room).all fun p => isFrom p.1 0 (p.2 - 1)
  | _ => false
def isRoom (x : PyData) : Bool := match x with
  | .tuple xs => decide (1 ≤ xs.length) && decide (xs.length ≤ 3) && xs.all fun w => isFrom w 2 4
  | _ => false
theorem boolsOf_map : ∀ {α : Type} (p : α → Bool) (l : List α), boolsOf (l.map fun x => .bool (p x)) = some (l.map p)
  | _, p, [] => rfl
  | _, p, x :: l => by simp [boolsOf, boolsOf_map p l]
theorem all_bools {α : Type} (p : α → Bool) (l : List α) : biV .all (.list (l.map fun x => .bool (p x))) = some (.bool (l.all p), false) := by
  simp [biV, boolsOf_map, List.all_map]
theorem zipD_map (xs : List PyData) (room : List Int) : zipD xs (room.map .int) = (xs.zip room).map fun p => .tuple [p.1, .int p.2] := by
  simp [zipD, List.zip, List.map_zipWith, List.zipWith_map_right]
def IsFactsC (f : Nat) (C : CallF) : Prop := ∀ room x, room.length ≤ 1000 → C f [(T room, false), (x, false)] = some (.bool (isFacts room x), false, [(T room, false), (x, false)])
def IsRoomC (f : Nat) (C : CallF) : Prop := ∀ x, C f [(x, false)] = some (.bool (isRoom x), false, [(x, false)])
theorem isFacts_lev (hf : Γ[f]? = some (ir_is_facts f_is_row f_is_from)) (h1 : Lev Γ n (IsRowC f_is_row)) (h2 : Lev Γ n (IsFromC f_is_from)) : Lev Γ (n + 1) (IsFactsC f) := by
  refine lev_of fun k hk room x hr => ?_
  rw [call_at hf]
  have e1 := h1 k hk
  have e2 := h2 k hk
  unfold IsRowC at e1
  unfold IsFromC at e2
  cases x with
  | tuple xs =>
    by_cases hl : xs.length = room.length
    · have hc := compL_map (C := call Γ k) (t := .tp [.nm 2, .nm 3]) (own := [2, 3]) (e := ev (call Γ k) (ir_is_facts_e1 f_is_from)) (fun p : PyData × Int => .tuple [p.1, .int p.2]) (fun p => .bool (isFrom p.1 0 (p.2 - 1))) (ys := xs.zip room) (acc := [])
        (env := [some (T room, .p), some (.tuple xs, .p), none, none]) (fun p hp => by
          refine ⟨_, false, [some (T room, .p), some (.tuple xs, .p), some (p.1, .p), some (.int p.2, .p)], rfl, ?_, rfl⟩
          simp [ir_is_facts_e1, runFn, exs, ex, ev, evs, evArgs, evO, evAnd, evOr, evIt, entry, tst, truE, rdOf, tkOf, fstOf, lateOf, quiet, quiets, quietO, pers, look, keepV, readV, takeV, copV, bopV, biV, bi2V, truV, fin, okFin, finals, callNow, argsNow, argNow, lent, back, hidOf, hid2Of, VI.bind, VI.binds, tgs, tgss, asgI, asgs, wipeE, unset, keepP, items, e2]) (sizeLine_big (by simp; omega))
      simp [ir_is_facts, runFn, exs, ex, ev, evs, evArgs, evO, evAnd, evOr, evIt, entry, tst, truE, rdOf, tkOf, fstOf, lateOf, quiet, quiets, quietO, pers, look, keepV, readV, takeV, copV, bopV, biV, bi2V, truV, fin, okFin, finals, callNow, argsNow, argNow, lent, back, hidOf, hid2Of, VI.bind, VI.binds, tgs, tgss, asgI, asgs, wipeE, unset, keepP, items, e1, isRow, hl, zipD_map, hc, isFacts, boolsOf_map]
    · have : isRow (.tuple xs) room.length room.length = false := by simp [isRow]; omega
      simp [ir_is_facts, runFn, exs, ex, ev, evs, evArgs, evO, evAnd, evOr, evIt, entry, tst, truE, rdOf, tkOf, fstOf, lateOf, quiet, quiets, quietO, pers, look, keepV, readV, takeV, copV, bopV, biV, bi2V, truV, fin, okFin, finals, callNow, argsNow, argNow, lent, back, hidOf, hid2Of, VI.bind, VI.binds, tgs, tgss, asgI, asgs, wipeE, unset, keepP, items, e1, this, isFacts, hl]
  | _ => simp [ir_is_facts, runFn, exs, ex, ev, evs, evArgs, evO, evAnd, evOr, evIt, entry, tst, truE, rdOf, tkOf, fstOf, lateOf, quiet, quiets, quietO, pers, look, keepV, readV, takeV, copV, bopV, biV, bi2V, truV, fin, okFin, finals, callNow, argsNow, argNow, lent, back, hidOf, hid2Of, VI.bind, VI.binds, tgs, tgss, asgI, asgs, wipeE, unset, keepP, items, e1, isRow, isFacts]
theorem isRoom_lev (hf : Γ[f]? = some (ir_is_room f_is_row f_is_from)) (h1 : Lev Γ n (IsRowC f_is_row)) (h2 : Lev Γ n (IsFromC f_is_from)) : Lev Γ (n + 1) (IsRoomC f) := by
  refine lev_of fun k hk x => ?_
  rw [call_at hf]
  have e1 := h1 k hk
  have e2 := h2 k hk
  unfold IsRowC at e1
  unfold IsFromC at e2
  cases x with
  | tuple xs =>
    by_cases hl : 1 ≤ xs.length ∧ xs.length ≤ 3
    · have hc := compL_map (C := call Γ k) (t := .nm 1) (own := [1]) (e := ev (call Γ k) (ir_is_room_e1 f_is_from)) id (fun p => .bool (isFrom p 2 4)) (ys := xs) (acc := [])
        (env := [some (.tuple xs, .p), none]) (fun p hp => by
          refine ⟨_, false, [some (.tuple xs, .p), some (p, .p)], rfl, ?_, rfl⟩
          simp [ir_is_room_e1, runFn, exs, ex, ev, evs, evArgs, evO, evAnd, evOr, evIt, entry, tst, truE, rdOf, tkOf, fstOf, lateOf, quiet, quiets, quietO, pers, look, keepV, readV, takeV, copV, bopV, biV, bi2V, truV, fin, okFin, finals, callNow, argsNow, argNow, lent, back, hidOf, hid2Of, VI.bind, VI.binds, tgs, tgss, asgI, asgs, wipeE, unset, keepP, items, e2]) (sizeLine_big (by simp; omega))
      have : isRow (.tuple xs) 1 3 = true := by simp [isRow]; omega
      simp at hc
      simp [ir_is_room, runFn, exs, ex, ev, evs, evArgs, evO, evAnd, evOr, evIt, entry, tst, truE, rdOf, tkOf, fstOf, lateOf, quiet, quiets, quietO, pers, look, keepV, readV, takeV, copV, bopV, biV, bi2V, truV, fin, okFin, finals, callNow, argsNow, argNow, lent, back, hidOf, hid2Of, VI.bind, VI.binds, tgs, tgss, asgI, asgs, wipeE, unset, keepP, items, e1, this, hc, isRoom, boolsOf_map, List.all_map, Function.comp_def, hl]
    · have : isRow (.tuple xs) 1 3 = false := by simp [isRow]; omega
      have h3 : ((decide (1 ≤ xs.length) && decide (xs.length ≤ 3)) = false) := by simpa using hl
      simp [ir_is_room, runFn, exs, ex, ev, evs, evArgs, evO, evAnd, evOr, evIt, entry, tst, truE, rdOf, tkOf, fstOf, lateOf, quiet, quiets, quietO, pers, look, keepV, readV, takeV, copV, bopV, biV, bi2V, truV, fin, okFin, finals, callNow, argsNow, argNow, lent, back, hidOf, hid2Of, VI.bind, VI.binds, tgs, tgss, asgI, asgs, wipeE, unset, keepP, items, e1, this, isRoom, h3]
  | _ => simp [ir_is_room, runFn, exs, ex, ev, evs, evArgs, evO, evAnd, evOr, evIt, entry, tst, truE, rdOf, tkOf, fstOf, lateOf, quiet, quiets, quietO, pers, look, keepV, readV, takeV, copV, bopV, biV, bi2V, truV, fin, okFin, finals, callNow, argsNow, argNow, lent, back, hidOf, hid2Of, VI.bind, VI.binds, tgs, tgss, asgI, asgs, wipeE, unset, keepP, items, e1, isRow, isRoom]
/-! ### rooms that are drawn -/
def RoomC (f : Nat) (C : CallF) : Prop := ∀ d i, PenOK d i → i + 4 ≤ 2147483648 → ∃ room d', C f [(d, true)] = some (T room, false, [(d', true)]) ∧ IsRoom room ∧ PenOK d' (i + 4)
theorem room_lev {f_draw : Nat} (hf : Γ[f]? = some (ir__law_room f_draw)) (h1 : Lev Γ n (DrawC f_draw)) : Lev Γ (n + 1) (RoomC f) := by
  refine lev_of fun k hk d i hd hi => ?_
  rw [call_at hf]
  have hD := h1 k hk
  obtain ⟨r, d1, a1, a2, a3, a4⟩ := hD d i 3 hd (by omega) (by decide) (by decide)
  obtain ⟨rs, env', b1, b2, hw, d', rfl, b5⟩ := compL_draws (C := call Γ k) (t := .nm 1) (own := [1]) (e := ev (call Γ k) (ir__law_room_e1 f_draw)) (fun (i : Nat) => PyData.int i) PyData.int (fun (w : Int) => 2 ≤ w ∧ w ≤ 4)
      (fun j env => ∃ d', env = [some (d', .b), none] ∧ PenOK d' (i + 1 + j)) (ys := List.range (1 + r).toNat) (acc := []) (j := 0) (env := [some (d1, .b), none]) ⟨d1, rfl, a4⟩ (by
        rintro j y env hy ⟨d2, rfl, hp⟩
        have hj := (List.getElem?_eq_some_iff.1 hy).1
        simp at hj
        obtain ⟨r2, d3, c1, c2, c3, c4⟩ := hD d2 _ 3 hp (by omega) (by decide) (by decide)
        refine ⟨_, 2 + r2, false, [some (d3, .b), some (.int y, .p)], rfl, ?_, by omega, d3, rfl, c4.le (by omega)⟩
        simp [ir__law_room_e1, runFn, exs, ex, ev, evs, evArgs, evO, evAnd, evOr, evIt, entry, tst, truE, rdOf, tkOf, fstOf, lateOf, quiet, quiets, quietO, pers, look, keepV, readV, takeV, copV, bopV, biV, bi2V, truV, fin, okFin, finals, callNow, argsNow, argNow, lent, back, hidOf, hid2Of, VI.bind, VI.binds, tgs, tgss, asgI, asgs, wipeE, unset, keepP, items, c1]) (sizeLine_big (by simp; omega))
  have h62 : int62 (1 + r) = true := by simp [int62]; omega
  simp at b1 b2
  refine ⟨rs, d', ?_, ⟨by omega, by omega, hw⟩, b5.le (by rw [List.length_range]; omega)⟩
  simp [ir__law_room, runFn, exs, ex, ev, evs, evArgs, evO, evAnd, evOr, evIt, entry, tst, truE, rdOf, tkOf, fstOf, lateOf, quiet, quiets, quietO, pers, look, keepV, readV, takeV, copV, bopV, biV, bi2V, truV, fin, okFin, finals, callNow, argsNow, argNow, lent, back, hidOf, hid2Of, VI.bind, VI.binds, tgs, tgss, asgI, asgs, wipeE, unset, keepP, items, a1, h62, rngD0, b1]
end
end VI
set_option maxRecDepth 100000
set_option maxHeartbeats 4000000
namespace VI
open PySem
/-! ### rooms are few -/
def rooms : List (List Int) :=
  let w := [2, 3, 4]
  w.map (fun a => [a]) ++ w.flatMap (fun a => w.map fun b => [a, b]) ++ w.flatMap (fun a => w.flatMap fun b => w.map fun c => [a, b, c])
theorem mem_rooms {room : List Int} (h : IsRoom room) : room ∈ rooms := by
  obtain ⟨h1, h2, h3⟩ := h
  have w : ∀ a : Int, 2 ≤ a ∧ a ≤ 4 → a = 2 ∨ a = 3 ∨ a = 4 := by omega
  match room, h1, h2 with
  | [a], _, _ =>
    rcases w a (h3 a (by simp)) with rfl | rfl | rfl <;> decide
  | [a, b], _, _ =>
    rcases w a (h3 a (by simp)) with rfl | rfl | rfl <;> rcases w b (h3 b (by simp)) with rfl | rfl | rfl <;> decide
  | [a, b, c], _, _ =>
    rcases w a (h3 a (by simp)) with rfl | rfl | rfl <;> rcases w b (h3 b (by simp)) with rfl | rfl | rfl <;> rcases w c (h3 c (by simp)) with rfl | rfl | rfl <;> decide
theorem by_rooms {p : List Int → Bool} (hp : rooms.all p = true) {room : List Int} (h : IsRoom room) : p room = true := List.all_eq_true.1 hp room (mem_rooms h)
def dig (n : Int) (pre : List Int) : List Int × Int := pre.foldl (fun s w => (s.2.fmod w :: s.1, s.2.fdiv w)) ([], n)
theorem dig_snoc (n : Int) (pre : List Int) (w : Int) : dig n (pre ++ [w]) = ((dig n pre).2.fmod w :: (dig n pre).1, (dig n pre).2.fdiv w) := by simp [dig]
theorem dig_len (n : Int) (pre : List Int) : (dig n pre).1.length = pre.length := by
  suffices ∀ (l : List Int) (s : List Int × Int), (l.foldl (fun s w => (s.2.fmod w :: s.1, s.2.fdiv w)) s).1.length = s.1.length + l.length by simpa [dig] using this pre ([], n)
  intro l
  induction l with
  | nil => intro s; simp
  | cons w l ih => intro s; rw [List.foldl_cons, ih]; simp; omega
def prodI (l : List Int) : Int := l.foldl (· * ·) 1
def digFacts (room : List Int) : List (List Int) := (List.range (prodI room).toNat).map fun (n : Nat) => (dig n room.reverse).1
theorem digFacts_eq {room : List Int} (h : IsRoom room) : digFacts room = allFacts room ∧ 0 ≤ prodI room ∧ prodI room ≤ 64 := by
  have := by_rooms (p := fun room => decide (digFacts room = allFacts room ∧ 0 ≤ prodI room ∧ prodI room ≤ 64)) (by decide +kernel) h
  simpa using this
def FactsListC (f : Nat) (C : CallF) : Prop := AllFactsC f C
section
variable {Γ : List Fn} {f n : Nat} {C : CallF}
theorem dig_loop {room : List Int} {s1 s2 s3 : Slot} (hr : IsRoom room) (m : Int) : ∃ s2', forL (.nm 2) (exs C ir_law_facts_digits_b2) (List.map PyData.int room).reverse
    [some (T room, .p), s1, s2, s3, some (.int m, .p), some (.tuple [], .p)] = some (.nx, [some (T room, .p), s1, s2', s3, some (.int (dig m room.reverse).2, .p), some (T (dig m room.reverse).1, .p)]) := by
  obtain ⟨env', h1, s2', h2⟩ := forL_pre (t := .nm 2) (b := exs C ir_law_facts_digits_b2) PyData.int (fun pre env => ∃ s2, env = [some (T room, .p), s1, s2, s3, some (.int (dig m pre).2, .p), some (T (dig m pre).1, .p)]) (all := room.reverse) (ys := room.reverse) (pre := [])
    (env := [some (T room, .p), s1, s2, s3, some (.int m, .p), some (.tuple [], .p)]) rfl ⟨_, rfl⟩ (by
      rintro pre y post env ha ⟨s2, rfl⟩
      have hy := hr.2.2 y (by rw [← List.mem_reverse, ha]; simp)
      have hl := congrArg List.length ha
      have hl2 := hr.2.1
      simp at hl
      have e1 : y ≠ 0 := by omega
      have e2 : y.natAbs < 1073741824 := by omega
      have e3 : 1 + (dig m pre).1.length ≤ sizeLine := by rw [dig_len]; exact sizeLine_big (by omega)
      refine ⟨_, _, rfl, Or.inl ?_, some (.int y, .p), rfl⟩
      simp [ir_law_facts_digits_b2, runFn, exs, ex, ev, evs, evArgs, evO, evAnd, evOr, evIt, entry, tst, truE, rdOf, tkOf, fstOf, lateOf, quiet, quiets, quietO, pers, look, keepV, readV, takeV, copV, bopV, biV, bi2V, truV, fin, okFin, finals, callNow, argsNow, argNow, lent, back, hidOf, hid2Of, VI.bind, VI.binds, tgs, tgss, asgI, asgs, wipeE, unset, keepP, items, e1, e2, e3, dig_snoc])
  subst h2
  refine ⟨s2', ?_⟩
  rw [← List.map_reverse]
  exact h1
theorem digFacts_lev (hf : Γ[f]? = some ir_law_facts_digits) : Lev Γ 1 (AllFactsC f) := by
  refine lev_of (n := 0) fun k _ room hr => ?_
  rw [call_at hf, ← (digFacts_eq hr).1]
  obtain ⟨hm0, hm1⟩ := (digFacts_eq hr).2
  obtain ⟨env', h1, s2, h2⟩ := forL_pre (t := .nm 2) (b := exs (call Γ k) ir_law_facts_digits_b1) PyData.int (fun pre env => ∃ s2, env = [some (T room, .p), some (.int (prodI pre), .p), s2, none, none, none]) (all := room) (ys := room) (pre := [])
    (env := [some (T room, .p), some (.int 1, .p), none, none, none, none]) rfl ⟨_, rfl⟩ (by
      rintro pre y post env ha ⟨s2, rfl⟩
      have hy := hr.2.2 y (by rw [ha]; simp)
      have e2 : y.natAbs < 18446744073709551616 := by omega
      refine ⟨_, _, rfl, Or.inl ?_, some (.int y, .p), rfl⟩
      simp [ir_law_facts_digits_b1, runFn, exs, ex, ev, evs, evArgs, evO, evAnd, evOr, evIt, entry, tst, truE, rdOf, tkOf, fstOf, lateOf, quiet, quiets, quietO, pers, look, keepV, readV, takeV, copV, bopV, biV, bi2V, truV, fin, okFin, finals, callNow, argsNow, argNow, lent, back, hidOf, hid2Of, VI.bind, VI.binds, tgs, tgss, asgI, asgs, wipeE, unset, keepP, items, e2, prodI])
  subst h2
  obtain ⟨env'', h3, s2', s4, s5, h4⟩ := forL_pre (t := .nm 4) (b := exs (call Γ k) ir_law_facts_digits_b3) (fun (i : Nat) => PyData.int i) (fun pre env => ∃ s2 s4 s5, env = [some (T room, .p), some (.int (prodI room), .p), s2, some (TL (pre.map fun (n : Nat) => (dig n room.reverse).1), .o), s4, s5]) (all := List.range (prodI room).toNat) (ys := List.range (prodI room).toNat) (pre := [])
    (env := [some (T room, .p), some (.int (prodI room), .p), s2, some (.list [], .o), none, none]) rfl ⟨_, _, _, rfl⟩ (by
      rintro pre y post env ha ⟨s2, s4, s5, rfl⟩
      have hl := congrArg List.length ha
      simp at hl
      obtain ⟨s2', h5⟩ := dig_loop (C := call Γ k) (s1 := some (.int (prodI room), .p)) (s2 := s2) (s3 := some (TL (pre.map fun (n : Nat) => (dig n room.reverse).1), .o)) hr y
      have e1 : pre.length < sizeLine := sizeLine_big (n := pre.length + 1) (by omega)
      refine ⟨_, _, rfl, Or.inl ?_, s2', some (.int (dig y room.reverse).2, .p), some (T (dig y room.reverse).1, .p), rfl⟩
      simp [ir_law_facts_digits_b3, runFn, exs, ex, ev, evs, evArgs, evO, evAnd, evOr, evIt, entry, tst, truE, rdOf, tkOf, fstOf, lateOf, quiet, quiets, quietO, pers, look, keepV, readV, takeV, copV, bopV, biV, bi2V, truV, fin, okFin, finals, callNow, argsNow, argNow, lent, back, hidOf, hid2Of, VI.bind, VI.binds, tgs, tgss, asgI, asgs, wipeE, unset, keepP, items, revV, h5, muV, appendV, e1])
  subst h4
  have e : int62 (prodI room) = true := by simp [int62]; omega
  simp [ir_law_facts_digits, runFn, exs, ex, ev, evs, evArgs, evO, evAnd, evOr, evIt, entry, tst, truE, rdOf, tkOf, fstOf, lateOf, quiet, quiets, quietO, pers, look, keepV, readV, takeV, copV, bopV, biV, bi2V, truV, fin, okFin, finals, callNow, argsNow, argNow, lent, back, hidOf, hid2Of, VI.bind, VI.binds, tgs, tgss, asgI, asgs, wipeE, unset, keepP, items, h1, e, rngD0, h3, digFacts]
end
end VI
set_option maxRecDepth 100000
set_option maxHeartbeats 4000000
/-! How long a shown thing is. -/
namespace VI
open PySem
mutual
def smallD : PyData → Bool
  | .int i => decide (i.natAbs < 10 ^ 100)
  | .str x => x.cps.toList.all fun c => decide (c < 1000000)
  | .list xs => smallA xs
  | .tuple xs => smallA xs
  | .dict kvs => smallK kvs
  | _ => true
def smallA : List PyData → Bool
  | [] => true
  | x :: xs => smallD x && smallA xs
def smallK : List (PyData × PyData) → Bool
  | [] => true
  | (k, v) :: r => smallD k && smallD v && smallK r
end
mutual
def cntD : PyData → Nat
  | .str x => 1 + x.length
  | .list xs => 1 + cntA xs
  | .tuple xs => 1 + cntA xs
  | .dict kvs => 1 + cntK kvs
  | _ => 1
def cntA : List PyData → Nat
  | [] => 0
  | x :: xs => cntD x + cntA xs
def cntK : List (PyData × PyData) → Nat
  | [] => 0
  | (k, v) :: r => cntD k + cntD v + cntK r
end
theorem join_le : ∀ ts : List Str, (Str.join ", " ts).length ≤ piled ts
  | [] => Nat.zero_le _
  | t :: ts => by have := join_length_add (t :: ts) (by simp); omega
theorem slen (a b : Str) : (a ++ b).length = a.length + b.length := strLen_append a b
theorem small_int {i : Int} (h : i.natAbs < 10 ^ 100) : i.natAbs.log2 < 1920 := by
  rcases Nat.eq_zero_or_pos i.natAbs with h0 | h0
  · rw [h0]; decide
  · have h1 : 2 ^ i.natAbs.log2 ≤ i.natAbs := Nat.log2_self_le (by omega)
    rcases Nat.lt_or_ge i.natAbs.log2 1920 with h2 | h2
    · exact h2
    · have h3 : 2 ^ 1920 ≤ 2 ^ i.natAbs.log2 := Nat.pow_le_pow_right (by decide) h2
      have h4 : (10 : Nat) ^ 100 < 2 ^ 1920 := Nat.lt_of_lt_of_le (show (10 : Nat) ^ 100 < (2 ^ 4) ^ 100 from Nat.pow_lt_pow_left (by decide) (by decide)) (by rw [← Nat.pow_mul]; exact Nat.pow_le_pow_right (by decide) (by decide))
      omega
mutual
theorem shown_len : ∀ d : PyData, smallD d = true → d.shown.length + 2 ≤ 110 * cntD d
  | .none, _ => by decide +kernel
  | .bool b, _ => by cases b <;> decide +kernel
  | .int i, h => by
    simp only [smallD, decide_eq_true_eq] at h
    rw [PyData.shown_int, ofString_length]
    have := int_text_length_le10 (k := 100) (by decide) h
    simp only [cntD]; omega
  | .str x, h => by
    simp only [smallD, List.all_eq_true, decide_eq_true_eq] at h
    rw [PyData.shown_str]
    have := PySem.StrLaws.reprText_len x fun c hc => Nat.lt_trans (h c hc) (by decide)
    simp only [cntD]; omega
  | .list xs, h => by
    have ih := shownA_len xs (by simpa [smallD] using h)
    have hj := join_le (PyData.shownAll xs)
    rw [PyData.shown_list, slen, slen]
    have e1 : (("[" : String) : Str).length = 1 := by rfl
    have e2 : (("]" : String) : Str).length = 1 := by rfl
    rw [e1, e2]
    simp only [cntD]; omega
  | .tuple xs, h => by
    have ih := shownA_len xs (by simpa [smallD] using h)
    have hj := join_le (PyData.shownAll xs)
    rw [PyData.shown_tuple, slen, slen]
    have e1 : (("(" : String) : Str).length = 1 := by rfl
    have e2 : (((if xs.length == 1 then ",)" else ")" : String) : String) : Str).length ≤ 2 := by split <;> decide +kernel
    rw [e1]
    simp only [cntD]; omega
  | .dict kvs, h => by
    have ih := shownK_len kvs (by simpa [smallD] using h)
    have hj := join_le (PyData.shownKv kvs)
    rw [PyData.shown_dict, slen, slen]
    have e1 : (("{" : String) : Str).length = 1 := by rfl
    have e2 : (("}" : String) : Str).length = 1 := by rfl
    rw [e1, e2]
    simp only [cntD]; omega
theorem shownA_len : ∀ xs : List PyData, smallA xs = true → piled (PyData.shownAll xs) ≤ 110 * cntA xs
  | [], _ => by simp [PyData.shownAll, piled_nil, cntA]
  | x :: xs, h => by
    simp only [smallA, Bool.and_eq_true] at h
    have h1 := shown_len x h.1
    have h2 := shownA_len xs h.2
    simp only [PyData.shownAll, piled_cons, cntA]
    omega
theorem shownK_len : ∀ kvs : List (PyData × PyData), smallK kvs = true → piled (PyData.shownKv kvs) ≤ 110 * cntK kvs
  | [], _ => by simp [PyData.shownKv, piled_nil, cntK]
  | (k, v) :: r, h => by
    simp only [smallK, Bool.and_eq_true] at h
    have h1 := shown_len k h.1.1
    have h2 := shown_len v h.1.2
    have h3 := shownK_len r h.2
    simp only [PyData.shownKv, piled_cons, cntK, slen]
    have e1 : ((": " : String) : Str).length = 2 := by rfl
    rw [e1]
    omega
end
mutual
theorem showable_of : ∀ d : PyData, smallD d = true → d.showable = true
  | .none, _ => rfl
  | .bool b, _ => by simp [PyData.showable]
  | .int i, h => by
    simp only [smallD, decide_eq_true_eq] at h
    simp only [PyData.showable, decide_eq_true_eq]
    exact small_int h
  | .str x, h => by simp [PyData.showable]
  | .list xs, h => by
    simp only [PyData.showable]; exact showableA_of xs (by simpa [smallD] using h)
  | .tuple xs, h => by
    simp only [PyData.showable]; exact showableA_of xs (by simpa [smallD] using h)
  | .dict kvs, h => by
    simp only [PyData.showable]; exact showableK_of kvs (by simpa [smallD] using h)
theorem showableA_of : ∀ xs : List PyData, smallA xs = true → PyData.showableAll xs = true
  | [], _ => by simp [PyData.showableAll]
  | x :: xs, h => by
    simp only [smallA, Bool.and_eq_true] at h
    simp only [PyData.showableAll, showable_of x h.1, showableA_of xs h.2, Bool.and_self]
theorem showableK_of : ∀ kvs : List (PyData × PyData), smallK kvs = true → PyData.showableKv kvs = true
  | [], _ => by simp [PyData.showableKv]
  | (k, v) :: r, h => by
    simp only [smallK, Bool.and_eq_true] at h
    simp only [PyData.showableKv, showable_of k h.1.1, showable_of v h.1.2, showableK_of r h.2, Bool.and_self]
end
/-- what repr asks -/
theorem repr_facts {d : PyData} (h1 : smallD d = true) (h2 : d.depth ≤ 64) (h3 : cntD d ≤ 100000) : d.showable = true ∧ d.depth ≤ 64 ∧ d.shown.length ≤ sizeLine := by
  have := shown_len d h1
  refine ⟨showable_of d h1, h2, ?_⟩
  rw [sizeLine_eq]; omega
theorem repr_ok {d : PyData} (h1 : smallD d = true) (h2 : d.depth ≤ 64) (h3 : cntD d ≤ 100000) (h4 : (!d.hasDict || !hasList d) = true) : biV .repr d = some (.str d.shown, false) := by
  obtain ⟨a1, a2, a3⟩ := repr_facts h1 h2 h3
  simp only [biV, a1, h4, decide_eq_true a2, decide_eq_true a3]
  rfl
end VI
set_option maxRecDepth 100000
set_option maxHeartbeats 4000000
/-! Tests of facts. -/
namespace VI
open PySem
def nth (l : List Int) (t : Int) : Int := l.getD t.toNat 0
inductive Tst where
  | yes
  | is (t w : Int)
  | under (t w : Int)
  | not (a : Tst)
  | both (a b : Tst)
  | either (a b : Tst)
namespace Tst
def enc : Tst → PyData
  | yes => .tuple [.str "yes"]
  | is t w => .tuple [.str "is", .int t, .int w]
  | under t w => .tuple [.str "under", .int t, .int w]
  | not a => .tuple [.str "not", a.enc]
  | both a b => .tuple [.str "both", a.enc, b.enc]
  | either a b => .tuple [.str "either", a.enc, b.enc]
def deep : Tst → Nat
  | not a => a.deep + 1
  | both a b => max a.deep b.deep + 1
  | either a b => max a.deep b.deep + 1
  | _ => 1
def size : Tst → Nat
  | not a => a.size + 1
  | both a b => a.size + b.size + 1
  | either a b => a.size + b.size + 1
  | _ => 1
/-- its traits are below n -/
def inl (n : Nat) : Tst → Prop
  | yes => True
  | is t _ => 0 ≤ t ∧ t < n
  | under t _ => 0 ≤ t ∧ t < n
  | not a => a.inl n
  | both a b => a.inl n ∧ b.inl n
  | either a b => a.inl n ∧ b.inl n
/-- a test of a room, but for its size -/
def fits (room : List Int) : Tst → Prop
  | yes => True
  | is t w => (0 ≤ t ∧ t < room.length) ∧ 0 ≤ w ∧ w < nth room t
  | under t w => (0 ≤ t ∧ t < room.length) ∧ 1 ≤ w ∧ w < nth room t
  | not a => a.fits room
  | both a b => a.fits room ∧ b.fits room
  | either a b => a.fits room ∧ b.fits room
def meets (facts : List Int) : Tst → Bool
  | yes => true
  | is t w => nth facts t == w
  | under t w => decide (nth facts t < w)
  | not a => !a.meets facts
  | both a b => a.meets facts && b.meets facts
  | either a b => a.meets facts || b.meets facts
theorem fits.inl {room : List Int} : ∀ {t : Tst}, t.fits room → t.inl room.length
  | .yes, _ => trivial
  | .is _ _, h => h.1
  | .under _ _, h => h.1
  | .not a, h => fits.inl (t := a) h
  | .both _ _, h => ⟨fits.inl h.1, fits.inl h.2⟩
  | .either _ _, h => ⟨fits.inl h.1, fits.inl h.2⟩
theorem deep_pos : ∀ t : Tst, 1 ≤ t.deep
  | .yes | .is _ _ | .under _ _ => Nat.le_refl _
  | .not _ | .both _ _ | .either _ _ => Nat.succ_pos _
end Tst
/-- 0:test 1:facts 2:word -/
def ir_meets (f_meets : Nat) : Fn := ⟨2, 3,
   [(.asg (.nm 2) (.ix (.var 0) (.cst (.int 0)))),
    (.ifs (.cmp .eq (.var 2) (.cst (.str "is"))) [(.ret (.cmp .eq (.ix (.var 1) (.ix (.var 0) (.cst (.int 1)))) (.ix (.var 0) (.cst (.int 2)))))] []),
    (.ifs (.cmp .eq (.var 2) (.cst (.str "under"))) [(.ret (.cmp .lt (.ix (.var 1) (.ix (.var 0) (.cst (.int 1)))) (.ix (.var 0) (.cst (.int 2)))))] []),
    (.ifs (.cmp .eq (.var 2) (.cst (.str "not"))) [(.ret (.nt (.call f_meets [(.ix (.var 0) (.cst (.int 1))), (.var 1)])))] []),
    (.ifs (.cmp .eq (.var 2) (.cst (.str "both"))) [(.ret (.andv [(.call f_meets [(.ix (.var 0) (.cst (.int 1))), (.var 1)]), (.call f_meets [(.ix (.var 0) (.cst (.int 2))), (.var 1)])]))] []),
    (.ifs (.cmp .eq (.var 2) (.cst (.str "either"))) [(.ret (.orv [(.call f_meets [(.ix (.var 0) (.cst (.int 1))), (.var 1)]), (.call f_meets [(.ix (.var 0) (.cst (.int 2))), (.var 1)])]))] []),
    (.ret (.cst (.bool true)))], [2]⟩
/-- 0:_law_pen_here 1:_law_room_here 2:_law_left 3:_law_deep 4:_law_pick 5:_law_trait 6:_law_own 7:_law_one -/
def ir__law_test (f__law_draw f__law_test : Nat) : Fn := ⟨4, 8,
   [(.asg (.nm 4) (.call f__law_draw [(.var 0), (.cst (.int 8))])),
    (.asg (.nm 5) (.call f__law_draw [(.var 0), (.bi .len (.var 1))])),
    (.ifs (.andv [(.cmp .eq (.var 4) (.cst (.int 7))), (.cmp .gt (.var 2) (.cst (.int 1))), (.cmp .gt (.var 3) (.cst (.int 1)))]) [(.ret (.tup [(.cst (.str "not")), (.call f__law_test [(.var 0), (.var 1), (.bop .sub (.var 2) (.cst (.int 1))), (.bop .sub (.var 3) (.cst (.int 1)))])]))] []),
    (.ifs (.andv [(.cmp .gt (.var 4) (.cst (.int 3))), (.cmp .gt (.var 2) (.cst (.int 2))), (.cmp .gt (.var 3) (.cst (.int 1)))]) [(.asg (.nm 6) (.bop .add (.cst (.int 1)) (.call f__law_draw [(.var 0), (.bop .sub (.var 2) (.cst (.int 2)))]))),
    (.asg (.nm 7) (.call f__law_test [(.var 0), (.var 1), (.var 6), (.bop .sub (.var 3) (.cst (.int 1)))])),
    (.ret (.tup [(.ix (.lst [(.cst (.str "both")), (.cst (.str "either"))]) (.bop .mod (.var 4) (.cst (.int 2)))), (.var 7), (.call f__law_test [(.var 0), (.var 1), (.bop .sub (.bop .sub (.var 2) (.cst (.int 1))) (.var 6)), (.bop .sub (.var 3) (.cst (.int 1)))])]))] []),
    (.ifs (.cmp .eq (.var 4) (.cst (.int 0))) [(.ret (.tup [(.cst (.str "yes"))]))] []),
    (.ifs (.cmp .eq (.bop .mod (.var 4) (.cst (.int 2))) (.cst (.int 0))) [(.ret (.tup [(.cst (.str "under")), (.var 5), (.bop .add (.cst (.int 1)) (.call f__law_draw [(.var 0), (.bop .sub (.ix (.var 1) (.var 5)) (.cst (.int 1)))]))]))] []),
    (.ret (.tup [(.cst (.str "is")), (.var 5), (.call f__law_draw [(.var 0), (.ix (.var 1) (.var 5))])]))], [4, 5, 6, 7]⟩
/-- 0:_law_test_here 1:_law_facts 2:_law_word -/
def ir__law_meets (f__law_meets : Nat) : Fn := ⟨2, 3,
   [(.asg (.nm 2) (.ix (.var 0) (.cst (.int 0)))),
    (.ifs (.cmp .eq (.var 2) (.cst (.str "yes"))) [(.ret (.cst (.bool true)))] []),
    (.ifs (.cmp .eq (.var 2) (.cst (.str "not"))) [(.ret (.nt (.call f__law_meets [(.ix (.var 0) (.cst (.int 1))), (.var 1)])))] []),
    (.ifs (.cmp .eq (.var 2) (.cst (.str "both"))) [(.ret (.andv [(.call f__law_meets [(.ix (.var 0) (.cst (.int 1))), (.var 1)]), (.call f__law_meets [(.ix (.var 0) (.cst (.int 2))), (.var 1)])]))] []),
    (.ifs (.cmp .eq (.var 2) (.cst (.str "either"))) [(.ret (.orv [(.call f__law_meets [(.ix (.var 0) (.cst (.int 1))), (.var 1)]), (.call f__law_meets [(.ix (.var 0) (.cst (.int 2))), (.var 1)])]))] []),
    (.ret (.andv [(.cmp .lt (.ix (.var 1) (.ix (.var 0) (.cst (.int 1)))) (.bop .add (.ix (.var 0) (.cst (.int 2))) (.bi .int (.cmp .eq (.var 2) (.cst (.str "is")))))), (.orv [(.cmp .eq (.var 2) (.cst (.str "under"))), (.cmp .eq (.ix (.var 1) (.ix (.var 0) (.cst (.int 1)))) (.ix (.var 0) (.cst (.int 2))))])]))], [2]⟩
theorem ofString_inj {a b : String} : Str.ofString a = Str.ofString b ↔ a = b := by
  constructor
  · intro h
    rw [Str.ofString_eq_toList, Str.ofString_eq_toList] at h
    have h1 : a.toList.map Char.toNat = b.toList.map Char.toNat := by simpa using h
    have h2 : ∀ x y : Char, x.toNat = y.toNat → x = y := fun x y e => Char.toNat_inj.mp e
    have h3 : ∀ l m : List Char, l.map Char.toNat = m.map Char.toNat → l = m := by
      intro l
      induction l with
      | nil => intro m e; cases m with
        | nil => rfl
        | cons _ _ => simp at e
      | cons x l ih => intro m e; cases m with
        | nil => simp at e
        | cons y m => simp at e; rw [h2 x y e.1, ih m (by simpa using e.2)]
    exact String.toList_inj.mp (h3 _ _ h1)
  · intro h; rw [h]
@[simp] theorem str_beq (a b : String) : (Str.ofString a == Str.ofString b) = (a == b) := by
  by_cases h : a = b
  · subst h; simp
  · have : ¬ Str.ofString a = Str.ofString b := fun e => h (ofString_inj.1 e)
    rw [beq_eq_false_iff_ne.2 this, beq_eq_false_iff_ne.2 h]
theorem pyEqI (i j : Int) : pyEq (.int i) (.int j) = some (decide (i = j)) := by
  show some (i == j) = _
  by_cases h : i = j <;> simp [h]
theorem pyEqS (a b : Str) : pyEq (.str a) (.str b) = some (a == b) := rfl
theorem pyEqB (a b : Bool) : pyEq (.bool a) (.bool b) = some (a == b) := rfl
theorem pyEqSI (a : Str) (i : Int) : pyEq (.str a) (.int i) = some false := rfl
theorem pyEqIS (a : Str) (i : Int) : pyEq (.int i) (.str a) = some false := rfl
theorem pyEqNI (i : Int) : pyEq .none (.int i) = some false := rfl
theorem pyEqIN (i : Int) : pyEq (.int i) .none = some false := rfl
theorem pyEqNN : pyEq .none .none = some true := rfl
theorem atI_of {l : List PyData} {n : Nat} {y : PyData} (h : l[n]? = some y) : L2.atI l (n : Int) = some y := L2.atI_nat h
@[simp] theorem at0 {a : PyData} {l : List PyData} : ixV (.tuple (a :: l)) (.int 0) = some a := atI_of (n := 0) rfl
@[simp] theorem at1 {a b : PyData} {l : List PyData} : ixV (.tuple (a :: b :: l)) (.int 1) = some b := atI_of (n := 1) rfl
@[simp] theorem at2 {a b c : PyData} {l : List PyData} : ixV (.tuple (a :: b :: c :: l)) (.int 2) = some c := atI_of (n := 2) rfl
@[simp] theorem at0L {a : PyData} {l : List PyData} : ixV (.list (a :: l)) (.int 0) = some a := atI_of (n := 0) rfl
@[simp] theorem at1L {a b : PyData} {l : List PyData} : ixV (.list (a :: b :: l)) (.int 1) = some b := atI_of (n := 1) rfl
@[simp] theorem at2L {a b c : PyData} {l : List PyData} : ixV (.list (a :: b :: c :: l)) (.int 2) = some c := atI_of (n := 2) rfl
theorem atT {l : List Int} {t : Int} (h0 : 0 ≤ t) (h1 : t < l.length) : ixV (.tuple (l.map .int)) (.int t) = some (.int (nth l t)) := by
  obtain ⟨n, rfl⟩ : ∃ n : Nat, t = n := ⟨t.toNat, by omega⟩
  have hn : n < l.length := by omega
  refine atI_of (n := n) ?_
  simp [nth, List.getElem?_eq_getElem hn]
theorem cut_gen {xs : List PyData} (a b : Nat) : cutD xs (some (a : Int)) (some (b : Int)) = (xs.take b).drop a := by
  unfold cutD
  have e1 : HT.sIx xs.length 0 (some (a : Int)) = min a xs.length := HT.sIx_nat xs.length 0 a
  have e2 : HT.sIx xs.length xs.length (some (b : Int)) = min b xs.length := HT.sIx_nat xs.length xs.length b
  rw [e1, e2, List.drop_take]
  rcases Nat.le_total a xs.length with h | h
  · rw [Nat.min_eq_left h]
    rcases Nat.le_total b xs.length with h2 | h2
    · rw [Nat.min_eq_left h2]
    · rw [Nat.min_eq_right h2, List.take_of_length_le (by simp), List.take_of_length_le (by simp; omega)]
  · rw [Nat.min_eq_right h, List.drop_of_length_le (Nat.le_refl _), List.drop_of_length_le h]
    simp
theorem cut_to {xs : List PyData} (n : Nat) : cutD xs none (some (n : Int)) = xs.take n := by
  have h := cut_gen (xs := xs) 0 n
  rw [List.drop_zero] at h
  rw [← h]
  unfold cutD
  rw [HT.sIx_none, show HT.sIx xs.length 0 (some ((0 : Nat) : Int)) = min 0 xs.length from HT.sIx_nat xs.length 0 0, Nat.zero_min]
theorem cut_from {xs : List PyData} (n : Nat) : cutD xs (some (n : Int)) none = xs.drop n := by
  unfold cutD
  have e1 : HT.sIx xs.length 0 (some (n : Int)) = min n xs.length := HT.sIx_nat xs.length 0 n
  rw [HT.sIx_none, e1]
  rcases Nat.le_total n xs.length with h | h
  · rw [Nat.min_eq_left h, List.take_of_length_le (by simp)]
  · rw [Nat.min_eq_right h, List.drop_of_length_le (Nat.le_refl _), List.drop_of_length_le h]
    simp
def MeetsC (f dep : Nat) (C : CallF) : Prop := ∀ (t : Tst) facts, t.deep ≤ dep → t.inl facts.length → C f [(t.enc, false), (T facts, false)] = some (.bool (t.meets facts), false, [(t.enc, false), (T facts, false)])
section
variable {Γ : List Fn} {f n f_draw : Nat} {C : CallF}
theorem meets_lev (hf : Γ[f]? = some (ir_meets f)) : ∀ dep, Lev Γ dep (MeetsC f dep)
  | 0 => fun k _ t facts h _ => absurd t.deep_pos (by omega)
  | dep + 1 => by
    refine lev_of fun k hk t facts hd hl => ?_
    rw [call_at hf]
    have ih := meets_lev hf dep k hk
    cases t with
    | yes => simp [ir_meets, runFn, exs, ex, ev, evs, evArgs, evO, evAnd, evOr, evIt, entry, tst, truE, rdOf, tkOf, fstOf, lateOf, quiet, quiets, quietO, pers, look, keepV, readV, takeV, copV, bopV, biV, bi2V, truV, fin, okFin, finals, callNow, argsNow, argNow, lent, back, hidOf, hid2Of, VI.bind, VI.binds, tgs, tgss, asgI, asgs, wipeE, unset, keepP, items, Tst.enc, pyEq, Tst.meets]
    | is t w => simp [ir_meets, runFn, exs, ex, ev, evs, evArgs, evO, evAnd, evOr, evIt, entry, tst, truE, rdOf, tkOf, fstOf, lateOf, quiet, quiets, quietO, pers, look, keepV, readV, takeV, copV, bopV, biV, bi2V, truV, fin, okFin, finals, callNow, argsNow, argNow, lent, back, hidOf, hid2Of, VI.bind, VI.binds, tgs, tgss, asgI, asgs, wipeE, unset, keepP, items, Tst.enc, pyEq, Tst.meets, atT hl.1 hl.2]
    | under t w => simp [ir_meets, runFn, exs, ex, ev, evs, evArgs, evO, evAnd, evOr, evIt, entry, tst, truE, rdOf, tkOf, fstOf, lateOf, quiet, quiets, quietO, pers, look, keepV, readV, takeV, copV, bopV, biV, bi2V, truV, fin, okFin, finals, callNow, argsNow, argNow, lent, back, hidOf, hid2Of, VI.bind, VI.binds, tgs, tgss, asgI, asgs, wipeE, unset, keepP, items, Tst.enc, pyEq, Tst.meets, atT hl.1 hl.2]
    | not a =>
      have e := ih a facts (by simp [Tst.deep] at hd; omega) hl
      simp [ir_meets, runFn, exs, ex, ev, evs, evArgs, evO, evAnd, evOr, evIt, entry, tst, truE, rdOf, tkOf, fstOf, lateOf, quiet, quiets, quietO, pers, look, keepV, readV, takeV, copV, bopV, biV, bi2V, truV, fin, okFin, finals, callNow, argsNow, argNow, lent, back, hidOf, hid2Of, VI.bind, VI.binds, tgs, tgss, asgI, asgs, wipeE, unset, keepP, items, Tst.enc, pyEq, Tst.meets, e]
    | both a b =>
      have e1 := ih a facts (by simp [Tst.deep] at hd; omega) hl.1
      have e2 := ih b facts (by simp [Tst.deep] at hd; omega) hl.2
      cases h : a.meets facts <;> rw [h] at e1 <;> simp [ir_meets, runFn, exs, ex, ev, evs, evArgs, evO, evAnd, evOr, evIt, entry, tst, truE, rdOf, tkOf, fstOf, lateOf, quiet, quiets, quietO, pers, look, keepV, readV, takeV, copV, bopV, biV, bi2V, truV, fin, okFin, finals, callNow, argsNow, argNow, lent, back, hidOf, hid2Of, VI.bind, VI.binds, tgs, tgss, asgI, asgs, wipeE, unset, keepP, items, Tst.enc, pyEq, Tst.meets, e1, e2, h]
    | either a b =>
      have e1 := ih a facts (by simp [Tst.deep] at hd; omega) hl.1
      have e2 := ih b facts (by simp [Tst.deep] at hd; omega) hl.2
      cases h : a.meets facts <;> rw [h] at e1 <;> simp [ir_meets, runFn, exs, ex, ev, evs, evArgs, evO, evAnd, evOr, evIt, entry, tst, truE, rdOf, tkOf, fstOf, lateOf, quiet, quiets, quietO, pers, look, keepV, readV, takeV, copV, bopV, biV, bi2V, truV, fin, okFin, finals, callNow, argsNow, argNow, lent, back, hidOf, hid2Of, VI.bind, VI.binds, tgs, tgss, asgI, asgs, wipeE, unset, keepP, items, Tst.enc, pyEq, Tst.meets, e1, e2, h]
theorem law_meets_lev (hf : Γ[f]? = some (ir__law_meets f)) : ∀ dep, Lev Γ dep (MeetsC f dep)
  | 0 => fun k _ t facts h _ => absurd t.deep_pos (by omega)
  | dep + 1 => by
    refine lev_of fun k hk t facts hd hl => ?_
    rw [call_at hf]
    have ih := law_meets_lev hf dep k hk
    cases t with
    | yes => simp [ir__law_meets, runFn, exs, ex, ev, evs, evArgs, evO, evAnd, evOr, evIt, entry, tst, truE, rdOf, tkOf, fstOf, lateOf, quiet, quiets, quietO, pers, look, keepV, readV, takeV, copV, bopV, biV, bi2V, truV, fin, okFin, finals, callNow, argsNow, argNow, lent, back, hidOf, hid2Of, VI.bind, VI.binds, tgs, tgss, asgI, asgs, wipeE, unset, keepP, items, Tst.enc, pyEq, Tst.meets]
    | is t w =>
      by_cases h : nth facts t < w + 1
      · simp [ir__law_meets, runFn, exs, ex, ev, evs, evArgs, evO, evAnd, evOr, evIt, entry, tst, truE, rdOf, tkOf, fstOf, lateOf, quiet, quiets, quietO, pers, look, keepV, readV, takeV, copV, bopV, biV, bi2V, truV, fin, okFin, finals, callNow, argsNow, argNow, lent, back, hidOf, hid2Of, VI.bind, VI.binds, tgs, tgss, asgI, asgs, wipeE, unset, keepP, items, Tst.enc, pyEq, Tst.meets, atT hl.1 hl.2, h]
      · have : ¬ nth facts t = w := by omega
        simp [ir__law_meets, runFn, exs, ex, ev, evs, evArgs, evO, evAnd, evOr, evIt, entry, tst, truE, rdOf, tkOf, fstOf, lateOf, quiet, quiets, quietO, pers, look, keepV, readV, takeV, copV, bopV, biV, bi2V, truV, fin, okFin, finals, callNow, argsNow, argNow, lent, back, hidOf, hid2Of, VI.bind, VI.binds, tgs, tgss, asgI, asgs, wipeE, unset, keepP, items, Tst.enc, pyEq, Tst.meets, atT hl.1 hl.2, h, this]
    | under t w => 
      by_cases h : nth facts t < w
      · simp [ir__law_meets, runFn, exs, ex, ev, evs, evArgs, evO, evAnd, evOr, evIt, entry, tst, truE, rdOf, tkOf, fstOf, lateOf, quiet, quiets, quietO, pers, look, keepV, readV, takeV, copV, bopV, biV, bi2V, truV, fin, okFin, finals, callNow, argsNow, argNow, lent, back, hidOf, hid2Of, VI.bind, VI.binds, tgs, tgss, asgI, asgs, wipeE, unset, keepP, items, Tst.enc, pyEq, Tst.meets, atT hl.1 hl.2, h]
      · simp [ir__law_meets, runFn, exs, ex, ev, evs, evArgs, evO, evAnd, evOr, evIt, entry, tst, truE, rdOf, tkOf, fstOf, lateOf, quiet, quiets, quietO, pers, look, keepV, readV, takeV, copV, bopV, biV, bi2V, truV, fin, okFin, finals, callNow, argsNow, argNow, lent, back, hidOf, hid2Of, VI.bind, VI.binds, tgs, tgss, asgI, asgs, wipeE, unset, keepP, items, Tst.enc, pyEq, Tst.meets, atT hl.1 hl.2, h]
    | not a =>
      have e := ih a facts (by simp [Tst.deep] at hd; omega) hl
      simp [ir__law_meets, runFn, exs, ex, ev, evs, evArgs, evO, evAnd, evOr, evIt, entry, tst, truE, rdOf, tkOf, fstOf, lateOf, quiet, quiets, quietO, pers, look, keepV, readV, takeV, copV, bopV, biV, bi2V, truV, fin, okFin, finals, callNow, argsNow, argNow, lent, back, hidOf, hid2Of, VI.bind, VI.binds, tgs, tgss, asgI, asgs, wipeE, unset, keepP, items, Tst.enc, pyEq, Tst.meets, e]
    | both a b =>
      have e1 := ih a facts (by simp [Tst.deep] at hd; omega) hl.1
      have e2 := ih b facts (by simp [Tst.deep] at hd; omega) hl.2
      cases h : a.meets facts <;> rw [h] at e1 <;> simp [ir__law_meets, runFn, exs, ex, ev, evs, evArgs, evO, evAnd, evOr, evIt, entry, tst, truE, rdOf, tkOf, fstOf, lateOf, quiet, quiets, quietO, pers, look, keepV, readV, takeV, copV, bopV, biV, bi2V, truV, fin, okFin, finals, callNow, argsNow, argNow, lent, back, hidOf, hid2Of, VI.bind, VI.binds, tgs, tgss, asgI, asgs, wipeE, unset, keepP, items, Tst.enc, pyEq, Tst.meets, e1, e2, h]
    | either a b =>
      have e1 := ih a facts (by simp [Tst.deep] at hd; omega) hl.1
      have e2 := ih b facts (by simp [Tst.deep] at hd; omega) hl.2
      cases h : a.meets facts <;> rw [h] at e1 <;> simp [ir__law_meets, runFn, exs, ex, ev, evs, evArgs, evO, evAnd, evOr, evIt, entry, tst, truE, rdOf, tkOf, fstOf, lateOf, quiet, quiets, quietO, pers, look, keepV, readV, takeV, copV, bopV, biV, bi2V, truV, fin, okFin, finals, callNow, argsNow, argNow, lent, back, hidOf, hid2Of, VI.bind, VI.binds, tgs, tgss, asgI, asgs, wipeE, unset, keepP, items, Tst.enc, pyEq, Tst.meets, e1, e2, h]
end
end VI
set_option maxRecDepth 100000
set_option maxHeartbeats 4000000
/-! Tests that are drawn. -/
namespace VI
open PySem
def TestC (f dep : Nat) (C : CallF) : Prop := ∀ d i room (left deep : Int), PenOK d i → IsRoom room → 1 ≤ left → left ≤ 100 → 1 ≤ deep → deep ≤ dep → i + 3 * left.toNat ≤ 2147483648 →
  ∃ (t : Tst) (d' : PyData), C f [(d, true), (T room, false), (.int left, false), (.int deep, false)] = some (t.enc, false, [(d', true), (T room, false), (.int left, false), (.int deep, false)]) ∧
    t.fits room ∧ (t.size : Int) ≤ left ∧ (t.deep : Int) ≤ deep ∧ PenOK d' (i + 3 * left.toNat)
section
variable {Γ : List Fn} {f n f_draw : Nat} {C : CallF}
theorem nth_room {room : List Int} (hr : IsRoom room) {t : Int} (h0 : 0 ≤ t) (h1 : t < room.length) : 2 ≤ nth room t ∧ nth room t ≤ 4 := by
  have hn : t.toNat < room.length := by omega
  have := hr.2.2 room[t.toNat] (List.getElem_mem hn)
  simpa [nth, List.getElem?_eq_getElem hn] using this
theorem test_lev (hf : Γ[f]? = some (ir__law_test f_draw f)) (hD : Lev Γ n (DrawC f_draw)) : ∀ dep, Lev Γ (n + dep) (TestC f dep)
  | 0 => fun k _ d i room left deep _ _ _ _ h1 h2 _ => absurd h1 (by omega)
  | dep + 1 => by
    refine lev_of (n := n + dep) fun k hk d i room left deep hp hr hl hl2 hd hd2 hi => ?_
    rw [call_at hf]
    have ih := test_lev hf hD dep k hk
    have hD := hD k (by omega)
    have hrl := hr.1
    have hrl2 := hr.2.1
    obtain ⟨p, d1, a1, a2, a3, a4⟩ := hD d i 8 hp (by omega) (by decide) (by decide)
    obtain ⟨t, d2, b1, b2, b3, b4⟩ := hD d1 _ room.length a4 (by omega) (by omega) (by omega)
    obtain ⟨w2, w4⟩ := nth_room hr b2 b3
    have eT := atT (l := room) b2 b3
    by_cases hA : p = 7 ∧ 1 < left ∧ 1 < deep
    · obtain ⟨rfl, h1, h2⟩ := hA
      obtain ⟨x, d3, c1, c2, c3, c4, c5⟩ := ih d2 _ room (left - 1) (deep - 1) b4 hr (by omega) (by omega) (by omega) (by omega) (by omega)
      refine ⟨.not x, d3, ?_, c2, by simp [Tst.size]; omega, by simp [Tst.deep]; omega, c5.le (by omega)⟩
      simp [ir__law_test, runFn, exs, ex, ev, evs, evArgs, evO, evAnd, evOr, evIt, entry, tst, truE, rdOf, tkOf, fstOf, lateOf, quiet, quiets, quietO, pers, look, keepV, readV, takeV, copV, bopV, biV, bi2V, truV, fin, okFin, finals, callNow, argsNow, argNow, lent, back, hidOf, hid2Of, VI.bind, VI.binds, tgs, tgss, asgI, asgs, wipeE, unset, keepP, items, a1, b1, c1, h1, h2, pyEqI, pyEqS, pyEqB, pyEqSI, pyEqIS, pyEqNI, pyEqIN, pyEqNN, pyEqNil, Tst.enc]
    · by_cases hB : 3 < p ∧ 2 < left ∧ 1 < deep
      · obtain ⟨h0, h1, h2⟩ := hB
        obtain ⟨o, d3, c1, c2, c3, c4⟩ := hD d2 _ (left - 2) b4 (by omega) (by omega) (by omega)
        obtain ⟨x, d4, e1, e2, e3, e4, e5⟩ := ih d3 _ room (1 + o) (deep - 1) c4 hr (by omega) (by omega) (by omega) (by omega) (by omega)
        obtain ⟨y, d5, g1, g2, g3, g4, g5⟩ := ih d4 _ room (left - 1 - (1 + o)) (deep - 1) e5 hr (by omega) (by omega) (by omega) (by omega) (by omega)
        have hA' : ¬ (p = 7) := fun h => hA ⟨h, by omega, h2⟩
        have h3 : p.fmod 2 = 0 ∨ p.fmod 2 = 1 := by
          have := fmod_pos (x := p) (m := 2) (by decide)
          omega
        rcases h3 with h3 | h3
        · refine ⟨.both x y, d5, ?_, ⟨e2, g2⟩, by simp [Tst.size]; omega, by simp [Tst.deep]; omega, g5.le (by omega)⟩
          simp [ir__law_test, runFn, exs, ex, ev, evs, evArgs, evO, evAnd, evOr, evIt, entry, tst, truE, rdOf, tkOf, fstOf, lateOf, quiet, quiets, quietO, pers, look, keepV, readV, takeV, copV, bopV, biV, bi2V, truV, fin, okFin, finals, callNow, argsNow, argNow, lent, back, hidOf, hid2Of, VI.bind, VI.binds, tgs, tgss, asgI, asgs, wipeE, unset, keepP, items, a1, b1, c1, e1, g1, h0, h1, h2, h3, hA', pyEqI, pyEqS, pyEqB, pyEqSI, pyEqIS, pyEqNI, pyEqIN, pyEqNN, pyEqNil, Tst.enc]
        · refine ⟨.either x y, d5, ?_, ⟨e2, g2⟩, by simp [Tst.size]; omega, by simp [Tst.deep]; omega, g5.le (by omega)⟩
          simp [ir__law_test, runFn, exs, ex, ev, evs, evArgs, evO, evAnd, evOr, evIt, entry, tst, truE, rdOf, tkOf, fstOf, lateOf, quiet, quiets, quietO, pers, look, keepV, readV, takeV, copV, bopV, biV, bi2V, truV, fin, okFin, finals, callNow, argsNow, argNow, lent, back, hidOf, hid2Of, VI.bind, VI.binds, tgs, tgss, asgI, asgs, wipeE, unset, keepP, items, a1, b1, c1, e1, g1, h0, h1, h2, h3, hA', pyEqI, pyEqS, pyEqB, pyEqSI, pyEqIS, pyEqNI, pyEqIN, pyEqNN, pyEqNil, Tst.enc]
      · have goA : ¬ (p = 7 ∧ 1 < left ∧ 1 < deep) := hA
        have goB : ¬ (3 < p ∧ 2 < left ∧ 1 < deep) := hB
        have h3 : p.fmod 2 = 0 ∨ p.fmod 2 = 1 := by
          have := fmod_pos (x := p) (m := 2) (by decide)
          omega
        by_cases z1 : p = 0
        · refine ⟨.yes, d2, ?_, trivial, by simp [Tst.size]; omega, by simp [Tst.deep]; omega, b4.le (by omega)⟩
          simp [ir__law_test, runFn, exs, ex, ev, evs, evArgs, evO, evAnd, evOr, evIt, entry, tst, truE, rdOf, tkOf, fstOf, lateOf, quiet, quiets, quietO, pers, look, keepV, readV, takeV, copV, bopV, biV, bi2V, truV, fin, okFin, finals, callNow, argsNow, argNow, lent, back, hidOf, hid2Of, VI.bind, VI.binds, tgs, tgss, asgI, asgs, wipeE, unset, keepP, items, a1, b1, pyEqI, pyEqS, pyEqB, pyEqSI, pyEqIS, pyEqNI, pyEqIN, pyEqNN, pyEqNil, Tst.enc, z1]
        · rcases h3 with z2 | z2
          · have z3 : ¬ p = 7 := by intro h; subst h; simp at z2
            obtain ⟨w, d3, c1, c2, c3, c4⟩ := hD d2 _ (nth room t - 1) b4 (by omega) (by omega) (by omega)
            refine ⟨.under t (1 + w), d3, ?_, ⟨⟨b2, b3⟩, by omega, by omega⟩, by simp [Tst.size]; omega, by simp [Tst.deep]; omega, c4.le (by omega)⟩
            by_cases x3 : 1 < deep <;> by_cases x4 : 3 < p <;> by_cases x5 : 2 < left <;> first | (exfalso; omega) | simp [ir__law_test, runFn, exs, ex, ev, evs, evArgs, evO, evAnd, evOr, evIt, entry, tst, truE, rdOf, tkOf, fstOf, lateOf, quiet, quiets, quietO, pers, look, keepV, readV, takeV, copV, bopV, biV, bi2V, truV, fin, okFin, finals, callNow, argsNow, argNow, lent, back, hidOf, hid2Of, VI.bind, VI.binds, tgs, tgss, asgI, asgs, wipeE, unset, keepP, items, a1, b1, c1, eT, pyEqI, pyEqS, pyEqB, pyEqSI, pyEqIS, pyEqNI, pyEqIN, pyEqNN, pyEqNil, Tst.enc, x3, x4, x5, z1, z2, z3]
          · obtain ⟨w, d3, c1, c2, c3, c4⟩ := hD d2 _ (nth room t) b4 (by omega) (by omega) (by omega)
            refine ⟨.is t w, d3, ?_, ⟨⟨b2, b3⟩, by omega, by omega⟩, by simp [Tst.size]; omega, by simp [Tst.deep]; omega, c4.le (by omega)⟩
            by_cases x1 : p = 7
            · subst x1
              by_cases x2 : 1 < left <;> by_cases x3 : 1 < deep <;> by_cases x5 : 2 < left <;> first | (exfalso; omega) | simp [ir__law_test, runFn, exs, ex, ev, evs, evArgs, evO, evAnd, evOr, evIt, entry, tst, truE, rdOf, tkOf, fstOf, lateOf, quiet, quiets, quietO, pers, look, keepV, readV, takeV, copV, bopV, biV, bi2V, truV, fin, okFin, finals, callNow, argsNow, argNow, lent, back, hidOf, hid2Of, VI.bind, VI.binds, tgs, tgss, asgI, asgs, wipeE, unset, keepP, items, a1, b1, c1, eT, pyEqI, pyEqS, pyEqB, pyEqSI, pyEqIS, pyEqNI, pyEqIN, pyEqNN, pyEqNil, Tst.enc, x2, x3, x5]
            · by_cases x3 : 1 < deep <;> by_cases x4 : 3 < p <;> by_cases x5 : 2 < left <;> first | (exfalso; omega) | simp [ir__law_test, runFn, exs, ex, ev, evs, evArgs, evO, evAnd, evOr, evIt, entry, tst, truE, rdOf, tkOf, fstOf, lateOf, quiet, quiets, quietO, pers, look, keepV, readV, takeV, copV, bopV, biV, bi2V, truV, fin, okFin, finals, callNow, argsNow, argNow, lent, back, hidOf, hid2Of, VI.bind, VI.binds, tgs, tgss, asgI, asgs, wipeE, unset, keepP, items, a1, b1, c1, eT, pyEqI, pyEqS, pyEqB, pyEqSI, pyEqIS, pyEqNI, pyEqIN, pyEqNN, pyEqNil, Tst.enc, x1, x3, x4, x5, z1, z2]
end
end VI
set_option maxRecDepth 100000
set_option maxHeartbeats 4000000
/-! Parted tests. -/
namespace VI
open PySem
/-- 0:_law_room_here 1:_law_found 2:_law_worths 3:_law_k -/
def ir_law_facts_div_e1 : IE := (.bop .add (.ix (.var 1) (.bop .fdiv (.var 3) (.var 2))) (.tup [(.bop .mod (.var 3) (.var 2))]))
def ir_law_facts_div_b1 : List IS := [(.asg (.nm 1) (.cmpr ir_law_facts_div_e1 (.nm 3) (.rng1 (.bop .mul (.bi .len (.var 1)) (.var 2))) []))]
@[simp] theorem ir_law_facts_div_b1_asgs : asgs ir_law_facts_div_b1 = [1] := by rfl
def ir_law_facts_div : Fn := ⟨1, 4,
   [(.asg (.nm 1) (.lst [(.tup [])])),
    (.for_ (.nm 2) (.hid 0) ir_law_facts_div_b1),
    (.ret (.var 1))], [1, 2, 1]⟩
/-- 0:room 1:one 2:other 3:facts -/
def ir_parted_b1 (f_meets : Nat) : List IS := [(.ifs (.cmp .ne (.call f_meets [(.var 1), (.var 3)]) (.call f_meets [(.var 2), (.var 3)])) [(.ret (.var 3))] [])]
@[simp] theorem ir_parted_b1_asgs {f_meets : Nat} : asgs (ir_parted_b1 f_meets) = [] := by rfl
def ir_parted (f_all_facts f_meets : Nat) : Fn := ⟨3, 4,
   [(.for_ (.nm 3) (.val (.call f_all_facts [(.var 0)])) (ir_parted_b1 f_meets)),
    (.ret (.cst .none))], [3]⟩
/-- 0:_law_pen_here 1:_law_room_here 2:_law_test_here 3:_law_pick 4:_law_other -/
def ir__law_second (f__law_draw f__law_test : Nat) : Fn := ⟨3, 5,
   [(.asg (.nm 3) (.call f__law_draw [(.var 0), (.cst (.int 6))])),
    (.asg (.nm 4) (.call f__law_test [(.var 0), (.var 1), (.cst (.int 4)), (.cst (.int 3))])),
    (.ifs (.cmp .eq (.var 3) (.cst (.int 0))) [(.ret (.var 2))] []),
    (.ifs (.cmp .eq (.var 3) (.cst (.int 1))) [(.ret (.tup [(.cst (.str "not")), (.tup [(.cst (.str "not")), (.var 2)])]))] []),
    (.ifs (.andv [(.cmp .eq (.var 3) (.cst (.int 2))), (.cmp .isin (.ix (.var 2) (.cst (.int 0))) (.tup [(.cst (.str "both")), (.cst (.str "either"))]))]) [(.ret (.tup [(.ix (.var 2) (.cst (.int 0))), (.ix (.var 2) (.cst (.int 2))), (.ix (.var 2) (.cst (.int 1)))]))] []),
    (.ifs (.cmp .isin (.var 3) (.tup [(.cst (.int 3)), (.cst (.int 4))])) [(.ret (.tup [(.ix (.lst [(.cst (.str "both")), (.cst (.str "either"))]) (.bop .sub (.var 3) (.cst (.int 3)))), (.var 2), (.var 4)]))] []),
    (.ret (.var 4))], [3, 4]⟩
theorem divStep_eq (w : Nat) (hw : 0 < w) : ∀ found : List (List Int), (List.range (found.length * w)).map (fun (k : Nat) => found.getD (k / w) [] ++ [((k % w : Nat) : Int)]) = found.flatMap (ext w)
  | [] => by simp
  | x :: xs => by
    rw [List.length_cons, Nat.add_mul, Nat.one_mul, Nat.add_comm, List.range_add, List.map_append, List.flatMap_cons, ← divStep_eq w hw xs, List.map_map]
    congr 1
    · simp only [ext, Int.toNat_natCast]
      refine List.map_congr_left fun k hk => ?_
      have hk := List.mem_range.1 hk
      rw [Nat.div_eq_of_lt hk, Nat.mod_eq_of_lt hk]
      rfl
    · refine List.map_congr_left fun k hk => ?_
      simp [Function.comp, Nat.add_div_left _ hw]
theorem in_ints (l : List Int) (p : Int) : pyIn (.int p) (.tuple (l.map .int)) = some (l.contains p) := by
  have h1 : ∀ l : List Int, PyData.canLayAll0 (l.map .int) = true := lay_ints
  have h2 : ((l.map PyData.int).any fun z => PyData.eqv z (.int p)) = l.contains p := by
    induction l with
    | nil => rfl
    | cons a l ih =>
      rw [List.map_cons, List.any_cons, ih, List.contains_cons]
      congr 1
      show (a == p) = (p == a)
      exact Bool.beq_comm
  have h3 : min (PyData.depthAll (l.map .int)) (PyData.int p).depth ≤ 64 := Nat.le_trans (Nat.min_le_right _ _) (by show 0 ≤ 64; decide)
  simp only [pyIn, h1, h2, decide_eq_true h3]
  rfl
theorem strOk_of (a : String) : (PyData.str (Str.ofString a)).canLay0 = true := by
  simp only [PyData.canLay0, PyData.strOk, Str.ofString_eq_toList, Array.all_eq_true, decide_eq_true_eq]
  intro i hi
  simp only [List.getElem_toArray, List.getElem_map]
  generalize (a.toList[i]'(by simpa using hi)) = c
  have h := c.valid
  rw [← Char.toNat_val]
  simp only [UInt32.isValidChar, Nat.isValidChar] at h
  omega
theorem in_strs (l : List String) (a : String) : pyIn (.str (Str.ofString a)) (.tuple (l.map fun s => .str (Str.ofString s))) = some (l.contains a) := by
  have h1 : ∀ l : List String, PyData.canLayAll0 (l.map fun s => .str (Str.ofString s)) = true := by
    intro l
    induction l with
    | nil => rfl
    | cons a l ih => simp only [List.map_cons, PyData.canLayAll0, ih, Bool.and_true]; exact strOk_of a
  have h5 := strOk_of a
  have h2 : ((l.map fun s => PyData.str (Str.ofString s)).any fun z => PyData.eqv z (.str (Str.ofString a))) = l.contains a := by
    induction l with
    | nil => rfl
    | cons b l ih =>
      rw [List.map_cons, List.any_cons, ih, List.contains_cons]
      congr 1
      show (Str.ofString b == Str.ofString a) = (a == b)
      rw [str_beq]; exact Bool.beq_comm
  have h3 : min (PyData.depthAll (l.map fun s => .str (Str.ofString s))) (PyData.str (Str.ofString a)).depth ≤ 64 := Nat.le_trans (Nat.min_le_right _ _) (by show 0 ≤ 64; decide)
  simp only [pyIn, h1, h2, decide_eq_true h3, h5]
  rfl
theorem fdiv_nat (a b : Nat) : (a : Int).fdiv (b : Int) = ((a / b : Nat) : Int) := by
  rw [Int.fdiv_eq_ediv_of_nonneg _ (by omega)]; rfl
theorem fmod_nat (a b : Nat) : (a : Int).fmod (b : Int) = ((a % b : Nat) : Int) := by
  rw [Int.fmod_eq_emod_of_nonneg _ (by omega)]; rfl
def optT : Option (List Int) → PyData
  | some f => T f
  | none => .none
def firstApart (room : List Int) (t u : Tst) : Option (List Int) := (allFacts room).find? fun f => t.meets f != u.meets f
def PartedC (f dep : Nat) (C : CallF) : Prop := ∀ room (t u : Tst), IsRoom room → t.inl room.length → u.inl room.length → t.deep ≤ dep → u.deep ≤ dep →
  C f [(T room, false), (t.enc, false), (u.enc, false)] = some (optT (firstApart room t u), false, [(T room, false), (t.enc, false), (u.enc, false)])
section
variable {Γ : List Fn} {f n f_draw f_test f_meets f_facts : Nat} {C : CallF}
theorem div_turn {found out : List (List Int)} {y : Int} {m : Nat} {s0 s2 : Slot} (e6 : int62 ((found.length : Int) * y) = true) (e7 : ((found.length : Int) * y).toNat = m) (e8 : y.natAbs < 18446744073709551616)
    (hc : compL (.nm 3) [3] (evCs C []) (ev C ir_law_facts_div_e1) ((List.range m).map fun (i : Nat) => PyData.int i) [] [s0, some (TL found, .o), some (.int y, .p), none] = some (out.map T, [s0, some (TL found, .o), some (.int y, .p), none])) :
    exs C ir_law_facts_div_b1 ([s0, some (TL found, .o), s2, none].set 2 (some (.int y, .p))) = some (.nx, [s0, some (TL out, .o), some (.int y, .p), none]) := by
  simp [ir_law_facts_div_b1, runFn, exs, ex, ev, evs, evArgs, evO, evAnd, evOr, evIt, entry, tst, truE, rdOf, tkOf, fstOf, lateOf, quiet, quiets, quietO, pers, look, keepV, readV, takeV, copV, bopV, biV, bi2V, truV, fin, okFin, finals, callNow, argsNow, argNow, lent, back, hidOf, hid2Of, VI.bind, VI.binds, tgs, tgss, asgI, asgs, wipeE, unset, keepP, items, e6, e7, e8, rngD0, hc]
theorem divFacts_lev (hf : Γ[f]? = some ir_law_facts_div) : Lev Γ 1 (AllFactsC f) := by
  refine lev_of (n := 0) fun k _ room hr => ?_
  rw [call_at hf]
  obtain ⟨env', h1, s2, h2⟩ := forL_pre (t := .nm 2) (b := exs (call Γ k) ir_law_facts_div_b1) PyData.int (fun pre env => ∃ s2, env = [some (T room, .p), some (TL (allFacts pre), .o), s2, none]) (all := room) (ys := room) (pre := [])
    (env := [some (T room, .p), some (.list [.tuple []], .o), none, none]) rfl ⟨_, rfl⟩ (by
      rintro pre y post env ha ⟨s2, rfl⟩
      have hy := hr.2.2 y (by rw [ha]; simp)
      obtain ⟨h1, h2, h3, h4, h5⟩ := af_prefix hr ha
      obtain ⟨w, rfl⟩ : ∃ w : Nat, y = w := ⟨y.toNat, by omega⟩
      have hc := compL_map (C := call Γ k) (t := .nm 3) (own := [3]) (e := ev (call Γ k) ir_law_facts_div_e1) (fun (i : Nat) => PyData.int i) (fun (i : Nat) => T ((allFacts pre).getD (i / w) [] ++ [((i % w : Nat) : Int)])) (ys := List.range ((allFacts pre).length * w)) (acc := [])
        (env := [some (T room, .p), some (TL (allFacts pre), .o), some (.int w, .p), none]) (fun i hi => by
          refine ⟨_, false, [some (T room, .p), some (TL (allFacts pre), .o), some (.int w, .p), some (.int i, .p)], rfl, ?_, rfl⟩
          have hi := List.mem_range.1 hi
          have hj : i / w < (allFacts pre).length := Nat.div_lt_of_lt_mul (by rw [Nat.mul_comm]; exact hi)
          have e1 : ixV (.list ((allFacts pre).map T)) (.int ((i / w : Nat) : Int)) = some (T ((allFacts pre).getD (i / w) [])) := atI_of (by simp [List.getElem?_eq_getElem hj])
          have e2 : ((allFacts pre).getD (i / w) []).length + 1 ≤ sizeLine := by
            have := h4 ((allFacts pre).getD (i / w) []) (by simp [List.getElem?_eq_getElem hj])
            exact sizeLine_big (by omega)
          have e3 : (w : Int) ≠ 0 := by omega
          have e4 : (w : Int).natAbs < 1073741824 := by omega
          generalize (allFacts pre).getD (i / w) [] = g at e1 e2 ⊢
          simp [ir_law_facts_div_e1, runFn, exs, ex, ev, evs, evArgs, evO, evAnd, evOr, evIt, entry, tst, truE, rdOf, tkOf, fstOf, lateOf, quiet, quiets, quietO, pers, look, keepV, readV, takeV, copV, bopV, biV, bi2V, truV, fin, okFin, finals, callNow, argsNow, argNow, lent, back, hidOf, hid2Of, VI.bind, VI.binds, tgs, tgss, asgI, asgs, wipeE, unset, keepP, items, fdiv_nat, fmod_nat, -Int.natCast_ediv, -Int.natCast_emod, e1, e2, e3, e4, show ¬ w = 0 by omega, show w < 1073741824 by omega]) (sizeLine_big (by
            have : (allFacts pre).length * w ≤ 64 * 4 := Nat.mul_le_mul h3 (by omega)
            simp; omega))
      have hm := divStep_eq w (by omega) (allFacts pre)
      have e5 : (allFacts pre).length * w ≤ 64 * 4 := Nat.mul_le_mul h3 (by omega)
      have e6 : int62 (((allFacts pre).length : Int) * (w : Int)) = true := by
        have : ((allFacts pre).length : Int) * (w : Int) = (((allFacts pre).length * w : Nat) : Int) := by simp
        rw [this]
        simp only [int62, decide_eq_true_eq]; omega
      have e7 : (((allFacts pre).length : Int) * (w : Int)).toNat = (allFacts pre).length * w := by
        have : ((allFacts pre).length : Int) * (w : Int) = (((allFacts pre).length * w : Nat) : Int) := by simp
        rw [this]; omega
      have e8 : (w : Int).natAbs < 18446744073709551616 := by omega
      have hm' : (List.range ((allFacts pre).length * w)).map (fun (i : Nat) => T ((allFacts pre).getD (i / w) [] ++ [((i % w : Nat) : Int)])) = ((allFacts pre).flatMap (ext w)).map T := by rw [← hm, List.map_map]; rfl
      refine ⟨_, _, rfl, Or.inl ?_, some (.int w, .p), rfl⟩
      rw [List.nil_append, hm'] at hc
      rw [allFacts_snoc]
      exact div_turn e6 e7 e8 hc)
  subst h2
  simp [ir_law_facts_div, runFn, exs, ex, ev, evs, evArgs, evO, evAnd, evOr, evIt, entry, tst, truE, rdOf, tkOf, fstOf, lateOf, quiet, quiets, quietO, pers, look, keepV, readV, takeV, copV, bopV, biV, bi2V, truV, fin, okFin, finals, callNow, argsNow, argNow, lent, back, hidOf, hid2Of, VI.bind, VI.binds, tgs, tgss, asgI, asgs, wipeE, unset, keepP, items, h1]
theorem parted_lev {dep : Nat} (hf : Γ[f]? = some (ir_parted f_facts f_meets)) (hA : Lev Γ n (AllFactsC f_facts)) (hM : Lev Γ n (MeetsC f_meets dep)) : Lev Γ (n + 1) (PartedC f dep) := by
  refine lev_of fun k hk room t u hr ht hu hdt hdu => ?_
  rw [call_at hf]
  have hA := hA k hk room hr
  have hM := hM k hk
  have hF := forL_find (t := .nm 3) (b := exs (call Γ k) (ir_parted_b1 f_meets)) T (fun f => t.meets f != u.meets f) T (fun _ => false) (fun env => ∃ s3, env = [some (T room, .p), some (t.enc, .p), some (u.enc, .p), s3]) (fun env => ∃ s3, env = [some (T room, .p), some (t.enc, .p), some (u.enc, .p), s3]) (ys := allFacts room)
    (env := [some (T room, .p), some (t.enc, .p), some (u.enc, .p), none]) ⟨_, rfl⟩ (by
      rintro y hy env ⟨s3, rfl⟩
      have hyl := allFacts_mem y hy
      have m1 := hM t y hdt (by rw [hyl]; exact ht)
      have m2 := hM u y hdu (by rw [hyl]; exact hu)
      refine ⟨_, [some (T room, .p), some (t.enc, .p), some (u.enc, .p), some (T y, .p)], rfl, fun h => ⟨Or.inl ?_, _, rfl⟩, fun h => ⟨?_, _, rfl⟩⟩
      · have h : t.meets y = u.meets y := by simpa using h
        simp [ir_parted_b1, runFn, exs, ex, ev, evs, evArgs, evO, evAnd, evOr, evIt, entry, tst, truE, rdOf, tkOf, fstOf, lateOf, quiet, quiets, quietO, pers, look, keepV, readV, takeV, copV, bopV, biV, bi2V, truV, fin, okFin, finals, callNow, argsNow, argNow, lent, back, hidOf, hid2Of, VI.bind, VI.binds, tgs, tgss, asgI, asgs, wipeE, unset, keepP, items, m1, m2, pyEqI, pyEqS, pyEqB, pyEqSI, pyEqIS, pyEqNI, pyEqIN, pyEqNN, pyEqNil, h]
      · have h : (t.meets y == u.meets y) = false := by simpa [bne] using h
        simp [ir_parted_b1, runFn, exs, ex, ev, evs, evArgs, evO, evAnd, evOr, evIt, entry, tst, truE, rdOf, tkOf, fstOf, lateOf, quiet, quiets, quietO, pers, look, keepV, readV, takeV, copV, bopV, biV, bi2V, truV, fin, okFin, finals, callNow, argsNow, argNow, lent, back, hidOf, hid2Of, VI.bind, VI.binds, tgs, tgss, asgI, asgs, wipeE, unset, keepP, items, m1, m2, pyEqI, pyEqS, pyEqB, pyEqSI, pyEqIS, pyEqNI, pyEqIN, pyEqNN, pyEqNil, h])
  unfold firstApart
  split at hF
  · rename_i e
    obtain ⟨env', h1, s3, rfl⟩ := hF
    rw [e]
    simp [ir_parted, runFn, exs, ex, ev, evs, evArgs, evO, evAnd, evOr, evIt, entry, tst, truE, rdOf, tkOf, fstOf, lateOf, quiet, quiets, quietO, pers, look, keepV, readV, takeV, copV, bopV, biV, bi2V, truV, fin, okFin, finals, callNow, argsNow, argNow, lent, back, hidOf, hid2Of, VI.bind, VI.binds, tgs, tgss, asgI, asgs, wipeE, unset, keepP, items, hA, h1, optT]
  · rename_i y e
    obtain ⟨env', h1, s3, rfl⟩ := hF
    rw [e]
    simp [ir_parted, runFn, exs, ex, ev, evs, evArgs, evO, evAnd, evOr, evIt, entry, tst, truE, rdOf, tkOf, fstOf, lateOf, quiet, quiets, quietO, pers, look, keepV, readV, takeV, copV, bopV, biV, bi2V, truV, fin, okFin, finals, callNow, argsNow, argNow, lent, back, hidOf, hid2Of, VI.bind, VI.binds, tgs, tgss, asgI, asgs, wipeE, unset, keepP, items, hA, h1, optT]
def SecondC (f : Nat) (C : CallF) : Prop := ∀ d i room (t : Tst), PenOK d i → IsRoom room → t.fits room → t.deep ≤ 3 → i + 13 ≤ 2147483648 →
  ∃ (u : Tst) (d' : PyData), C f [(d, true), (T room, false), (t.enc, false)] = some (u.enc, false, [(d', true), (T room, false), (t.enc, false)]) ∧ u.fits room ∧ u.deep ≤ 5 ∧ PenOK d' (i + 13)
theorem second_lev (hf : Γ[f]? = some (ir__law_second f_draw f_test)) (hD : Lev Γ n (DrawC f_draw)) (hT : Lev Γ n (TestC f_test 3)) : Lev Γ (n + 1) (SecondC f) := by
  refine lev_of fun k hk d i room t hp hr ht hdt hi => ?_
  rw [call_at hf]
  obtain ⟨p, d1, a1, a2, a3, a4⟩ := hD k hk d i 6 hp (by omega) (by decide) (by decide)
  obtain ⟨o, d2, c1, c2, c3, c4, c5⟩ := hT k hk d1 _ room 4 3 a4 hr (by decide) (by decide) (by decide) (by decide) (by omega)
  have hl4 : (4 : Int).toNat = 4 := rfl
  have c5 := c5.le (j := i + 13) (by omega)
  have hin : ∀ a : String, pyIn (.str (Str.ofString a)) (.tuple [.str (Str.ofString "both"), .str (Str.ofString "either")]) = some (decide (a = "both") || decide (a = "either")) := by
    intro a
    simpa using in_strs ["both", "either"] a
  have hin2 : ∀ p : Int, pyIn (.int p) (.tuple [.int 3, .int 4]) = some (decide (p = 3) || decide (p = 4)) := by
    intro p
    simpa using in_ints [3, 4] p
  have cases6 : p = 0 ∨ p = 1 ∨ p = 2 ∨ p = 3 ∨ p = 4 ∨ p = 5 := by omega
  rcases cases6 with rfl | rfl | rfl | rfl | rfl | rfl
  · exact ⟨t, d2, by simp [ir__law_second, runFn, exs, ex, ev, evs, evArgs, evO, evAnd, evOr, evIt, entry, tst, truE, rdOf, tkOf, fstOf, lateOf, quiet, quiets, quietO, pers, look, keepV, readV, takeV, copV, bopV, biV, bi2V, truV, fin, okFin, finals, callNow, argsNow, argNow, lent, back, hidOf, hid2Of, VI.bind, VI.binds, tgs, tgss, asgI, asgs, wipeE, unset, keepP, items, a1, c1, pyEqI, pyEqS, pyEqB, pyEqSI, pyEqIS, pyEqNI, pyEqIN, pyEqNN, pyEqNil], ht, by omega, c5⟩
  · exact ⟨.not (.not t), d2, by simp [ir__law_second, runFn, exs, ex, ev, evs, evArgs, evO, evAnd, evOr, evIt, entry, tst, truE, rdOf, tkOf, fstOf, lateOf, quiet, quiets, quietO, pers, look, keepV, readV, takeV, copV, bopV, biV, bi2V, truV, fin, okFin, finals, callNow, argsNow, argNow, lent, back, hidOf, hid2Of, VI.bind, VI.binds, tgs, tgss, asgI, asgs, wipeE, unset, keepP, items, a1, c1, pyEqI, pyEqS, pyEqB, pyEqSI, pyEqIS, pyEqNI, pyEqIN, pyEqNN, pyEqNil, Tst.enc], ht, by simp [Tst.deep]; omega, c5⟩
  · cases t with
    | both a b => exact ⟨.both b a, d2, by simp [ir__law_second, runFn, exs, ex, ev, evs, evArgs, evO, evAnd, evOr, evIt, entry, tst, truE, rdOf, tkOf, fstOf, lateOf, quiet, quiets, quietO, pers, look, keepV, readV, takeV, copV, bopV, biV, bi2V, truV, fin, okFin, finals, callNow, argsNow, argNow, lent, back, hidOf, hid2Of, VI.bind, VI.binds, tgs, tgss, asgI, asgs, wipeE, unset, keepP, items, a1, c1, pyEqI, pyEqS, pyEqB, pyEqSI, pyEqIS, pyEqNI, pyEqIN, pyEqNN, pyEqNil, Tst.enc, hin, hin2], ⟨ht.2, ht.1⟩, by simp [Tst.deep] at hdt ⊢; omega, c5⟩
    | either a b => exact ⟨.either b a, d2, by simp [ir__law_second, runFn, exs, ex, ev, evs, evArgs, evO, evAnd, evOr, evIt, entry, tst, truE, rdOf, tkOf, fstOf, lateOf, quiet, quiets, quietO, pers, look, keepV, readV, takeV, copV, bopV, biV, bi2V, truV, fin, okFin, finals, callNow, argsNow, argNow, lent, back, hidOf, hid2Of, VI.bind, VI.binds, tgs, tgss, asgI, asgs, wipeE, unset, keepP, items, a1, c1, pyEqI, pyEqS, pyEqB, pyEqSI, pyEqIS, pyEqNI, pyEqIN, pyEqNN, pyEqNil, Tst.enc, hin, hin2], ⟨ht.2, ht.1⟩, by simp [Tst.deep] at hdt ⊢; omega, c5⟩
    | _ => exact ⟨o, d2, by simp [ir__law_second, runFn, exs, ex, ev, evs, evArgs, evO, evAnd, evOr, evIt, entry, tst, truE, rdOf, tkOf, fstOf, lateOf, quiet, quiets, quietO, pers, look, keepV, readV, takeV, copV, bopV, biV, bi2V, truV, fin, okFin, finals, callNow, argsNow, argNow, lent, back, hidOf, hid2Of, VI.bind, VI.binds, tgs, tgss, asgI, asgs, wipeE, unset, keepP, items, a1, c1, pyEqI, pyEqS, pyEqB, pyEqSI, pyEqIS, pyEqNI, pyEqIN, pyEqNN, pyEqNil, Tst.enc, hin, hin2], c2, by omega, c5⟩
  · exact ⟨.both t o, d2, by simp [ir__law_second, runFn, exs, ex, ev, evs, evArgs, evO, evAnd, evOr, evIt, entry, tst, truE, rdOf, tkOf, fstOf, lateOf, quiet, quiets, quietO, pers, look, keepV, readV, takeV, copV, bopV, biV, bi2V, truV, fin, okFin, finals, callNow, argsNow, argNow, lent, back, hidOf, hid2Of, VI.bind, VI.binds, tgs, tgss, asgI, asgs, wipeE, unset, keepP, items, a1, c1, pyEqI, pyEqS, pyEqB, pyEqSI, pyEqIS, pyEqNI, pyEqIN, pyEqNN, pyEqNil, Tst.enc, hin, hin2], ⟨ht, c2⟩, by simp [Tst.deep]; omega, c5⟩
  · exact ⟨.either t o, d2, by simp [ir__law_second, runFn, exs, ex, ev, evs, evArgs, evO, evAnd, evOr, evIt, entry, tst, truE, rdOf, tkOf, fstOf, lateOf, quiet, quiets, quietO, pers, look, keepV, readV, takeV, copV, bopV, biV, bi2V, truV, fin, okFin, finals, callNow, argsNow, argNow, lent, back, hidOf, hid2Of, VI.bind, VI.binds, tgs, tgss, asgI, asgs, wipeE, unset, keepP, items, a1, c1, pyEqI, pyEqS, pyEqB, pyEqSI, pyEqIS, pyEqNI, pyEqIN, pyEqNN, pyEqNil, Tst.enc, hin, hin2], ⟨ht, c2⟩, by simp [Tst.deep]; omega, c5⟩
  · exact ⟨o, d2, by simp [ir__law_second, runFn, exs, ex, ev, evs, evArgs, evO, evAnd, evOr, evIt, entry, tst, truE, rdOf, tkOf, fstOf, lateOf, quiet, quiets, quietO, pers, look, keepV, readV, takeV, copV, bopV, biV, bi2V, truV, fin, okFin, finals, callNow, argsNow, argNow, lent, back, hidOf, hid2Of, VI.bind, VI.binds, tgs, tgss, asgI, asgs, wipeE, unset, keepP, items, a1, c1, pyEqI, pyEqS, pyEqB, pyEqSI, pyEqIS, pyEqNI, pyEqIN, pyEqNN, pyEqNil, Tst.enc, hin, hin2], c2, by omega, c5⟩
end
end VI
set_option maxRecDepth 100000
set_option maxHeartbeats 4000000
/-! is_test, of tests. -/
namespace VI
open PySem
/-- 0:test -/
def ir_parts_of : Fn := ⟨1, 1,
   [(.ifs (.cmp .isin (.ix (.var 0) (.cst (.int 0))) (.tup [(.cst (.str "not")), (.cst (.str "both")), (.cst (.str "either"))])) [(.ret (.bi .list (.sl (.var 0) (some (.cst (.int 1))) none)))] []),
    (.ret (.lst []))], []⟩
/-- 0:room 1:thing 2:word -/
def ir_is_frame (f_is_row f_is_from : Nat) : Fn := ⟨2, 3,
   [(.ifs (.orv [(.nt (.call f_is_row [(.var 1), (.cst (.int 1)), (.cst (.int 3))])), (.nt (.inst (.ix (.var 1) (.cst (.int 0))) ["str"]))]) [(.ret (.cst (.bool false)))] []),
    (.asg (.nm 2) (.ix (.var 1) (.cst (.int 0)))),
    (.ifs (.cmp .isin (.var 2) (.tup [(.cst (.str "is")), (.cst (.str "under"))])) [(.ifs (.orv [(.cmp .ne (.bi .len (.var 1)) (.cst (.int 3))), (.nt (.call f_is_from [(.ix (.var 1) (.cst (.int 1))), (.cst (.int 0)), (.bop .sub (.bi .len (.var 0)) (.cst (.int 1)))]))]) [(.ret (.cst (.bool false)))] []),
    (.ret (.call f_is_from [(.ix (.var 1) (.cst (.int 2))), (.bi .int (.cmp .eq (.var 2) (.cst (.str "under")))), (.bop .sub (.ix (.var 0) (.ix (.var 1) (.cst (.int 1)))) (.cst (.int 1)))]))] []),
    (.ret (.cmp .eq (.bi .len (.var 1)) (.me .get (.dct [(.cst (.str "yes")), (.cst (.int 1)), (.cst (.str "not")), (.cst (.int 2)), (.cst (.str "both")), (.cst (.int 3)), (.cst (.str "either")), (.cst (.int 3))]) [(.var 2), (.cst (.int 0))])))], [2]⟩
/-- 0:room 1:thing 2:deep 3:part -/
def ir_count_parts_e1 (f_count_parts : Nat) : IE := (.call f_count_parts [(.var 0), (.var 3), (.bop .sub (.var 2) (.cst (.int 1)))])
def ir_count_parts (f_is_frame f_count_parts f_parts_of : Nat) : Fn := ⟨3, 4,
   [(.ifs (.orv [(.cmp .eq (.var 2) (.cst (.int 0))), (.nt (.call f_is_frame [(.var 0), (.var 1)]))]) [(.ret (.bop .add (.glb "MOST_PARTS" (.int 9)) (.cst (.int 1))))] []),
    (.ret (.bop .add (.cst (.int 1)) (.bi .sum (.cmpr (ir_count_parts_e1 f_count_parts) (.nm 3) (.val (.call f_parts_of [(.var 1)])) []))))], []⟩
/-- 0:room 1:thing -/
def ir_is_test (f_count_parts : Nat) : Fn := ⟨2, 2,
   [(.ret (.cmp .le (.call f_count_parts [(.var 0), (.var 1), (.glb "MOST_DEEP" (.int 5))]) (.glb "MOST_PARTS" (.int 9))))], []⟩
def Tst.parts : Tst → List Tst
  | .not a => [a]
  | .both a b => [a, b]
  | .either a b => [a, b]
  | _ => []
def PartsTC (f : Nat) (C : CallF) : Prop := ∀ t : Tst, C f [(t.enc, false)] = some (.list (t.parts.map Tst.enc), true, [(t.enc, false)])
def FrameTC (f : Nat) (C : CallF) : Prop := ∀ room (t : Tst), room.length ≤ 1000 → t.fits room → C f [(T room, false), (t.enc, false)] = some (.bool true, false, [(T room, false), (t.enc, false)])
def CountTC (f dep : Nat) (C : CallF) : Prop := ∀ room (t : Tst) (deep : Int), room.length ≤ 1000 → t.fits room → (t.deep : Int) ≤ deep → deep ≤ dep → C f [(T room, false), (t.enc, false), (.int deep, false)] = some (.int t.size, false, [(T room, false), (t.enc, false), (.int deep, false)])
def IsTestTC (f : Nat) (C : CallF) : Prop := ∀ room (t : Tst), room.length ≤ 1000 → t.fits room → t.deep ≤ 5 → t.size ≤ 9 → C f [(T room, false), (t.enc, false)] = some (.bool true, false, [(T room, false), (t.enc, false)])
theorem in_2 (x a b : String) : pyIn (.str (Str.ofString x)) (.tuple [.str (Str.ofString a), .str (Str.ofString b)]) = some (decide (x = a) || decide (x = b)) := by simpa using in_strs [a, b] x
theorem in_3 (x a b c : String) : pyIn (.str (Str.ofString x)) (.tuple [.str (Str.ofString a), .str (Str.ofString b), .str (Str.ofString c)]) = some (decide (x = a) || (decide (x = b) || decide (x = c))) := by simpa using in_strs [a, b, c] x
def wordsD : List (PyData × PyData) := [(.str "yes", .int 1), (.str "not", .int 2), (.str "both", .int 3), (.str "either", .int 3)]
theorem words_pair : pairUp [.str "yes", .int 1, .str "not", .int 2, .str "both", .int 3, .str "either", .int 3] [] = some wordsD := by rfl
theorem words_yes : meV .get (.dict wordsD) [.str "yes", .int 0] = some (.int 1) := by rfl
theorem words_not : meV .get (.dict wordsD) [.str "not", .int 0] = some (.int 2) := by rfl
theorem words_both : meV .get (.dict wordsD) [.str "both", .int 0] = some (.int 3) := by rfl
theorem words_either : meV .get (.dict wordsD) [.str "either", .int 0] = some (.int 3) := by rfl
section
variable {Γ : List Fn} {f n f_is_row f_is_from f_is_frame f_parts_of f_count_parts : Nat} {C : CallF}
theorem partsT_lev (hf : Γ[f]? = some ir_parts_of) : Lev Γ 1 (PartsTC f) := by
  refine lev_of (n := 0) fun k _ t => ?_
  rw [call_at hf]
  cases t <;> simp [ir_parts_of, runFn, exs, ex, ev, evs, evArgs, evO, evAnd, evOr, evIt, entry, tst, truE, rdOf, tkOf, fstOf, lateOf, quiet, quiets, quietO, pers, look, keepV, readV, takeV, copV, bopV, biV, bi2V, truV, fin, okFin, finals, callNow, argsNow, argNow, lent, back, hidOf, hid2Of, VI.bind, VI.binds, tgs, tgss, asgI, asgs, wipeE, unset, keepP, items, Tst.enc, in_3, slV, cut_from (n := 1), Tst.parts, show ∀ xs : List PyData, cutD xs (some 1) none = xs.drop 1 from fun xs => cut_from 1]
theorem frameT_lev (hf : Γ[f]? = some (ir_is_frame f_is_row f_is_from)) (h1 : Lev Γ n (IsRowC f_is_row)) (h2 : Lev Γ n (IsFromC f_is_from)) : Lev Γ (n + 1) (FrameTC f) := by
  refine lev_of fun k hk room t hr ht => ?_
  rw [call_at hf]
  have e1 := h1 k hk
  have e2 := h2 k hk
  unfold IsRowC at e1
  unfold IsFromC at e2
  cases t with
  | is t w =>
    obtain ⟨⟨a1, a2⟩, a3, a4⟩ := ht
    have eT := atT (l := room) a1 a2
    have b2 : isFrom (.int t) 0 (room.length - 1) = true := by simp [isFrom]; omega
    have b3 : isFrom (.int w) 0 (nth room t - 1) = true := by simp [isFrom]; omega
    simp [ir_is_frame, runFn, exs, ex, ev, evs, evArgs, evO, evAnd, evOr, evIt, entry, tst, truE, rdOf, tkOf, fstOf, lateOf, quiet, quiets, quietO, pers, look, keepV, readV, takeV, copV, bopV, biV, bi2V, truV, fin, okFin, finals, callNow, argsNow, argNow, lent, back, hidOf, hid2Of, VI.bind, VI.binds, tgs, tgss, asgI, asgs, wipeE, unset, keepP, items, Tst.enc, in_2, e1, e2, isRow, isiV, tyIs, tyN, pyEqI, pyEqS, pyEqB, pyEqSI, pyEqIS, pyEqNI, pyEqIN, pyEqNN, pyEqNil, eT, b2, b3]
  | under t w =>
    obtain ⟨⟨a1, a2⟩, a3, a4⟩ := ht
    have eT := atT (l := room) a1 a2
    have b2 : isFrom (.int t) 0 (room.length - 1) = true := by simp [isFrom]; omega
    have b3 : isFrom (.int w) 1 (nth room t - 1) = true := by simp [isFrom]; omega
    simp [ir_is_frame, runFn, exs, ex, ev, evs, evArgs, evO, evAnd, evOr, evIt, entry, tst, truE, rdOf, tkOf, fstOf, lateOf, quiet, quiets, quietO, pers, look, keepV, readV, takeV, copV, bopV, biV, bi2V, truV, fin, okFin, finals, callNow, argsNow, argNow, lent, back, hidOf, hid2Of, VI.bind, VI.binds, tgs, tgss, asgI, asgs, wipeE, unset, keepP, items, Tst.enc, in_2, e1, e2, isRow, isiV, tyIs, tyN, pyEqI, pyEqS, pyEqB, pyEqSI, pyEqIS, pyEqNI, pyEqIN, pyEqNN, pyEqNil, eT, b2, b3]
  | _ => simp [ir_is_frame, runFn, exs, ex, ev, evs, evArgs, evO, evAnd, evOr, evIt, entry, tst, truE, rdOf, tkOf, fstOf, lateOf, quiet, quiets, quietO, pers, look, keepV, readV, takeV, copV, bopV, biV, bi2V, truV, fin, okFin, finals, callNow, argsNow, argNow, lent, back, hidOf, hid2Of, VI.bind, VI.binds, tgs, tgss, asgI, asgs, wipeE, unset, keepP, items, Tst.enc, in_2, e1, e2, isRow, isiV, tyIs, tyN, pyEqI, pyEqS, pyEqB, pyEqSI, pyEqIS, pyEqNI, pyEqIN, pyEqNN, pyEqNil, words_pair, words_yes, words_not, words_both, words_either]
theorem countT_lev (hf : Γ[f]? = some (ir_count_parts f_is_frame f f_parts_of)) (h1 : Lev Γ n (FrameTC f_is_frame)) (h2 : Lev Γ n (PartsTC f_parts_of)) : ∀ dep, Lev Γ (n + dep) (CountTC f dep)
  | 0 => fun k _ room t deep _ _ hd hd2 => absurd (Tst.deep_pos t) (by omega)
  | dep + 1 => by
    refine lev_of (n := n + dep) fun k hk room t deep hr ht hd hd2 => ?_
    rw [call_at hf]
    have e1 := h1 k (by omega) room t hr ht
    have e2 := h2 k (by omega) t
    have ih := countT_lev hf h1 h2 dep k hk
    have hp := Tst.deep_pos t
    have hc := compL_map (C := call Γ k) (t := .nm 3) (own := [3]) (e := ev (call Γ k) (ir_count_parts_e1 f)) Tst.enc (fun u : Tst => .int u.size) (ys := t.parts) (acc := []) (env := [some (T room, .p), some (t.enc, .p), some (.int deep, .p), none]) (fun u hu => by
      have hu2 : u.fits room ∧ u.deep + 1 ≤ t.deep := by
        cases t <;> simp [Tst.parts] at hu
        · subst hu; exact ⟨ht, Nat.le_refl _⟩
        · rcases hu with rfl | rfl
          · exact ⟨ht.1, by simp [Tst.deep]; omega⟩
          · exact ⟨ht.2, by simp [Tst.deep]; omega⟩
        · rcases hu with rfl | rfl
          · exact ⟨ht.1, by simp [Tst.deep]; omega⟩
          · exact ⟨ht.2, by simp [Tst.deep]; omega⟩
      have e3 := ih room u (deep - 1) hr hu2.1 (by omega) (by omega)
      refine ⟨_, false, [some (T room, .p), some (t.enc, .p), some (.int deep, .p), some (u.enc, .p)], rfl, ?_, rfl⟩
      simp [ir_count_parts_e1, runFn, exs, ex, ev, evs, evArgs, evO, evAnd, evOr, evIt, entry, tst, truE, rdOf, tkOf, fstOf, lateOf, quiet, quiets, quietO, pers, look, keepV, readV, takeV, copV, bopV, biV, bi2V, truV, fin, okFin, finals, callNow, argsNow, argNow, lent, back, hidOf, hid2Of, VI.bind, VI.binds, tgs, tgss, asgI, asgs, wipeE, unset, keepP, items, e3]) (sizeLine_big (by cases t <;> simp [Tst.parts]))
    have h0 : ¬ deep = 0 := by omega
    have hs : intsOf (t.parts.map fun u => .int u.size) = some (t.parts.map fun u => (u.size : Int)) := by cases t <;> rfl
    have hsum : (t.parts.map fun u => (u.size : Int)).sum + 1 = t.size := by cases t <;> simp [Tst.parts, Tst.size]
    simp at hc
    simp [ir_count_parts, runFn, exs, ex, ev, evs, evArgs, evO, evAnd, evOr, evIt, entry, tst, truE, rdOf, tkOf, fstOf, lateOf, quiet, quiets, quietO, pers, look, keepV, readV, takeV, copV, bopV, biV, bi2V, truV, fin, okFin, finals, callNow, argsNow, argNow, lent, back, hidOf, hid2Of, VI.bind, VI.binds, tgs, tgss, asgI, asgs, wipeE, unset, keepP, items, e1, e2, pyEqI, pyEqS, pyEqB, pyEqSI, pyEqIS, pyEqNI, pyEqIN, pyEqNN, pyEqNil, h0, hc, hs]
    omega
theorem isTestT_lev (hf : Γ[f]? = some (ir_is_test f_count_parts)) (h1 : Lev Γ n (CountTC f_count_parts 5)) : Lev Γ (n + 1) (IsTestTC f) := by
  refine lev_of fun k hk room t hr ht hd hs => ?_
  rw [call_at hf]
  have e1 := h1 k hk room t 5 hr ht (by omega) (by decide)
  have : (t.size : Int) ≤ 9 := by omega
  simp [ir_is_test, runFn, exs, ex, ev, evs, evArgs, evO, evAnd, evOr, evIt, entry, tst, truE, rdOf, tkOf, fstOf, lateOf, quiet, quiets, quietO, pers, look, keepV, readV, takeV, copV, bopV, biV, bi2V, truV, fin, okFin, finals, callNow, argsNow, argNow, lent, back, hidOf, hid2Of, VI.bind, VI.binds, tgs, tgss, asgI, asgs, wipeE, unset, keepP, items, e1, this]
end
end VI
set_option maxRecDepth 100000
set_option maxHeartbeats 4000000
/-! Shows that are drawn. -/
namespace VI
open PySem
/-- 0:show 1:c 2:facts 3:test 4:to -/
def ir_moved_b1 (f_meets : Nat) : List IS := [(.ifs (.call f_meets [(.var 3), (.var 2)]) [(.ret (.var 4))] [])]
@[simp] theorem ir_moved_b1_asgs {f_meets : Nat} : asgs (ir_moved_b1 f_meets) = [] := by rfl
def ir_moved (f_meets : Nat) : Fn := ⟨3, 5,
   [(.for_ (.tp [(.nm 3), (.nm 4)]) (.val (.ix (.ix (.ix (.var 0) (.cst (.int 1))) (.var 1)) (.cst (.int 0)))) (ir_moved_b1 f_meets)),
    (.ret (.cst .none))], [3, 4]⟩
/-- 0:_law_pen_here 1:_law_things 2:_law_one -/
def ir__law_some_e1 : IE := (.var 2)
def ir__law_some_c1 (f__law_draw : Nat) : List IE := [(.cmp .eq (.call f__law_draw [(.var 0), (.cst (.int 2))]) (.cst (.int 0)))]
def ir__law_some (f__law_draw : Nat) : Fn := ⟨2, 3,
   [(.ret (.cmpr ir__law_some_e1 (.nm 2) (.hid 1) (ir__law_some_c1 f__law_draw)))], []⟩
/-- 0:_law_pen_here 1:_law_things 2:_law_rest 3:_law_k -/
def ir__law_turned_e1 (f__law_draw : Nat) : IE := (.mu .pop 2 [(.call f__law_draw [(.var 0), (.bi .len (.var 2))])])
def ir__law_turned (f__law_draw : Nat) : Fn := ⟨2, 4,
   [(.asg (.nm 2) (.bi .list (.var 1))),
    (.ret (.cmpr (ir__law_turned_e1 f__law_draw) (.nm 3) (.rng1 (.bi .len (.var 1))) []))], [2]⟩
/-- 0:_law_pen_here 1:_law_room_here 2:_law_many 3:_law_c 4:_law_rising 5:_law_movings 6:_law_k 7:_law_test_here 8:_law_splits 9:_law_ribbons -/
def ir__law_class_b1 (f__law_test f__law_draw : Nat) : List IS := [(.asg (.nm 7) (.call f__law_test [(.var 0), (.var 1), (.ix (.lst [(.cst (.int 9)), (.cst (.int 3)), (.cst (.int 1))]) (.call f__law_draw [(.var 0), (.cst (.int 3))])), (.cst (.int 5))])),
    (.ifs (.andv [(.cmp .gt (.var 2) (.cst (.int 1))), (.nt (.var 4))]) [(.ex (.mu .append 5 [(.tup [(.var 7), (.bop .mod (.bop .add (.bop .add (.var 3) (.cst (.int 1))) (.call f__law_draw [(.var 0), (.bop .sub (.var 2) (.cst (.int 1)))])) (.var 2))])]))] [(.ifs (.cmp .lt (.bop .add (.var 3) (.cst (.int 1))) (.var 2)) [(.ex (.mu .append 5 [(.tup [(.var 7), (.bop .add (.bop .add (.var 3) (.cst (.int 1))) (.call f__law_draw [(.var 0), (.bop .sub (.bop .sub (.var 2) (.var 3)) (.cst (.int 1)))]))])]))] [])])]
def ir__law_class_b2 (f__law_draw : Nat) : List IS := [(.ex (.mu .append 8 [(.tup [(.call f__law_draw [(.var 0), (.bi .len (.var 1))]), (.bop .add (.cst (.int 1)) (.call f__law_draw [(.var 0), (.ix (.lst [(.cst (.int 8)), (.cst (.int 3))]) (.var 6))])), (.bop .add (.cst (.int 1)) (.call f__law_draw [(.var 0), (.ix (.lst [(.cst (.int 3)), (.cst (.int 8))]) (.var 6))]))])]))]
def ir__law_class_e1 (f__law_draw : Nat) : IE := (.ix (.lst [(.call f__law_draw [(.var 0), (.cst (.int 6))]), (.bop .sub (.cst (.int 99)) (.call f__law_draw [(.var 0), (.cst (.int 100))]))]) (.call f__law_draw [(.var 0), (.cst (.int 2))]))
@[simp] theorem ir__law_class_b1_asgs {f__law_test f__law_draw : Nat} : asgs (ir__law_class_b1 f__law_test f__law_draw) = [7] := by rfl
@[simp] theorem ir__law_class_b2_asgs {f__law_draw : Nat} : asgs (ir__law_class_b2 f__law_draw) = [] := by rfl
def ir__law_class (f__law_draw f__law_test : Nat) : Fn := ⟨5, 10,
   [(.asg (.nm 5) (.lst [])),
    (.for_ (.nm 6) (.rng1 (.call f__law_draw [(.var 0), (.cst (.int 5))])) (ir__law_class_b1 f__law_test f__law_draw)),
    (.asg (.nm 8) (.lst [])),
    (.for_ (.nm 6) (.rng1 (.call f__law_draw [(.var 0), (.cst (.int 3))])) (ir__law_class_b2 f__law_draw)),
    (.asg (.nm 9) (.cmpr (ir__law_class_e1 f__law_draw) (.nm 6) (.rng1 (.bop .add (.cst (.int 1)) (.call f__law_draw [(.var 0), (.cst (.int 3))]))) [])),
    (.ret (.tup [(.bi .tuple (.var 5)), (.bi .tuple (.var 8)), (.bi .tuple (.var 9))]))], [5, 6, 7, 8, 6, 9]⟩
/-- 0:_law_pen_here 1:_law_many 2:_law_cup_here 3:_law_of 4:_law_names 5:_law_steps 6:_law_name 7:_law_without -/
def ir__law_cup_e1 (f__law_draw : Nat) : IE := (.tup [(.var 6), (.ix (.lst [(.cst (.int 1)), (.cst (.int 1)), (.neg (.cst (.int 1)))]) (.call f__law_draw [(.var 0), (.cst (.int 3))]))])
def ir__law_cup (f__law_some f__law_draw f__law_turned : Nat) : Fn := ⟨3, 8,
   [(.asg (.nm 3) (.call f__law_some [(.var 0), (.lrg1 false (.var 1))])),
    (.ifs (.cmp .eq (.var 3) (.lst [])) [(.asg (.nm 3) (.lst [(.call f__law_draw [(.var 0), (.var 1)])]))] []),
    (.asg (.nm 4) (.sl (.call f__law_turned [(.var 0), (.lst [(.cst (.str "points")), (.cst (.str "firsts")), (.cst (.str "seconds")), (.cst (.str "thirds")), (.cst (.str "prizes")), (.cst (.str "entries"))])]) none (some (.bop .add (.cst (.int 1)) (.call f__law_draw [(.var 0), (.cst (.int 4))]))))),
    (.asg (.nm 5) (.bi .tuple (.cmpr (ir__law_cup_e1 f__law_draw) (.nm 6) (.hid 4) []))),
    (.asg (.nm 7) (.ix (.lst [(.call f__law_some [(.var 0), (.lrg1 false (.var 2))]), (.lst [])]) (.call f__law_draw [(.var 0), (.cst (.int 2))]))),
    (.ret (.tup [(.bi .tuple (.var 3)), (.var 5), (.bi .tuple (.var 7))]))], [3, 3, 4, 5, 7]⟩
/-- 0:_law_pen_here 1:_law_classes 2:_law_cups 3:_law_room_here 4:_law_many 5:_law_rising 6:_law_some_here 7:_law_c 8:_law_cup_here -/
def ir__law_show_e1 (f__law_class : Nat) : IE := (.call f__law_class [(.var 0), (.var 3), (.var 4), (.var 7), (.var 5)])
def ir__law_show_e2 (f__law_cup : Nat) : IE := (.call f__law_cup [(.var 0), (.var 4), (.var 8)])
def ir__law_show (f__law_room f__law_draw f__law_class f__law_cup : Nat) : Fn := ⟨3, 9,
   [(.asg (.nm 3) (.call f__law_room [(.var 0)])),
    (.asg (.nm 4) (.bop .add (.cst (.int 1)) (.call f__law_draw [(.var 0), (.var 1)]))),
    (.asg (.nm 5) (.cmp .gt (.call f__law_draw [(.var 0), (.cst (.int 3))]) (.cst (.int 0)))),
    (.asg (.nm 6) (.bi .tuple (.cmpr (ir__law_show_e1 f__law_class) (.nm 7) (.rng1 (.var 4)) []))),
    (.ret (.tup [(.var 3), (.var 6), (.bi .tuple (.cmpr (ir__law_show_e2 f__law_cup) (.nm 8) (.rng1 (.call f__law_draw [(.var 0), (.bop .add (.var 2) (.cst (.int 1)))])) []))]))], [3, 4, 5, 6]⟩
structure Cls where
  movs : List (Tst × Int)
  splits : List (Int × Int × Int)
  prizes : List Int
structure Cup where
  of_ : List Int
  steps : List (Str × Int)
  without : List Int
structure Show where
  room : List Int
  cls : List Cls
  cups : List Cup
def movD (p : Tst × Int) : PyData := .tuple [p.1.enc, .int p.2]
def splitD (s : Int × Int × Int) : PyData := .tuple [.int s.1, .int s.2.1, .int s.2.2]
def stepD (s : Str × Int) : PyData := .tuple [.str s.1, .int s.2]
def Cls.enc (c : Cls) : PyData := .tuple [.tuple (c.movs.map movD), .tuple (c.splits.map splitD), .tuple (c.prizes.map .int)]
def Cup.enc (c : Cup) : PyData := .tuple [.tuple (c.of_.map .int), .tuple (c.steps.map stepD), .tuple (c.without.map .int)]
def Show.enc (s : Show) : PyData := .tuple [.tuple (s.room.map .int), .tuple (s.cls.map Cls.enc), .tuple (s.cups.map Cup.enc)]
structure MovOK (room : List Int) (many c : Int) (p : Tst × Int) : Prop where
  fits : p.1.fits room
  deep : p.1.deep ≤ 5
  size : p.1.size ≤ 9
  lo : 0 ≤ p.2
  hi : p.2 < many
  ne : p.2 ≠ c
def SplitOK (room : List Int) (s : Int × Int × Int) : Prop := (0 ≤ s.1 ∧ s.1 < room.length) ∧ (1 ≤ s.2.1 ∧ s.2.1 ≤ 8) ∧ 1 ≤ s.2.2 ∧ s.2.2 ≤ 8
structure ClsOK (room : List Int) (many c : Int) (cl : Cls) : Prop where
  m : ∀ p ∈ cl.movs, MovOK room many c p
  ml : cl.movs.length ≤ 4
  s : ∀ s ∈ cl.splits, SplitOK room s
  sl : cl.splits.length ≤ 2
  p : ∀ p ∈ cl.prizes, 0 ≤ p ∧ p ≤ 99
  p1 : 1 ≤ cl.prizes.length
  p3 : cl.prizes.length ≤ 3
def measuresL : List Str := ["points", "firsts", "seconds", "thirds", "prizes", "entries"]
def rngI (n : Int) : List Int := (List.range n.toNat).map fun (i : Nat) => (i : Int)
structure CupOK (many k : Int) (c : Cup) : Prop where
  o : c.of_.Sublist (rngI many)
  o1 : c.of_ ≠ []
  st : ∀ s ∈ c.steps, s.1 ∈ measuresL ∧ (s.2 = 1 ∨ s.2 = -1)
  nd : (c.steps.map (·.1)).Nodup
  s1 : 1 ≤ c.steps.length
  s4 : c.steps.length ≤ 4
  w : c.without.Sublist (rngI k)
structure ShowOK (s : Show) : Prop where
  r : IsRoom s.room
  c1 : 1 ≤ s.cls.length
  c6 : s.cls.length ≤ 6
  c : ∀ (i : Nat) cl, s.cls[i]? = some cl → ClsOK s.room s.cls.length i cl
  u6 : s.cups.length ≤ 6
  u : ∀ (i : Nat) cu, s.cups[i]? = some cu → CupOK s.cls.length i cu
theorem pick {l : List Int} {r : Int} (h0 : 0 ≤ r) (h1 : r < l.length) : ∃ x, x ∈ l ∧ ixV (.list (l.map .int)) (.int r) = some (.int x) := by
  obtain ⟨n, rfl⟩ : ∃ n : Nat, r = n := ⟨r.toNat, by omega⟩
  have hn : n < l.length := by omega
  exact ⟨l[n], List.getElem_mem hn, atI_of (by simp [List.getElem?_eq_getElem hn])⟩
theorem compL_sub {α : Type} {t : Tgt} {own : List Nat} {cs : En → Option (Bool × En)} {e : En → Option Res} (enc : α → PyData) (enc' : α → PyData) (P : Nat → En → Prop) :
    ∀ {ys : List α} {acc : List PyData} {j : Nat} {env : En}, P j env →
    (∀ i y env, ys[i]? = some y → P (j + i) env → ∃ env1 b env2, bind t (enc y) env = some env1 ∧ cs env1 = some (b, env2) ∧ (b = false → P (j + i + 1) (wipeE env2 own)) ∧ (b = true → ∃ o env3, e env2 = some (enc' y, o, env3) ∧ P (j + i + 1) (wipeE env3 own))) → acc.length + ys.length ≤ sizeLine →
    ∃ (rs : List α) (env' : En), compL t own cs e (ys.map enc) acc env = some (acc ++ rs.map enc', env') ∧ rs.Sublist ys ∧ P (j + ys.length) env'
  | [], acc, j, env, h, _, _ => ⟨[], env, by simp [compL], List.Sublist.refl _, h⟩
  | y :: ys, acc, j, env, h, st, hl => by
    rw [List.length_cons] at hl
    obtain ⟨env1, b, env2, h1, h2, h3, h4⟩ := st 0 y env rfl h
    have next : ∀ i z env, ys[i]? = some z → P (j + 1 + i) env → _ := fun i z env hz hP => by
      have := st (i + 1) z env (by simpa using hz)
      rw [show j + (i + 1) = j + 1 + i by omega] at this
      exact this hP
    cases b with
    | false =>
      obtain ⟨rs, env', k1, k2, k3⟩ := compL_sub enc enc' P (ys := ys) (acc := acc) (j := j + 1) (h3 rfl) next (by omega)
      exact ⟨rs, env', by simp only [List.map_cons, compL, h1, h2, k1], k2.cons y, by rw [List.length_cons, show j + (ys.length + 1) = j + 1 + ys.length by omega]; exact k3⟩
    | true =>
      obtain ⟨o, env3, e1, e2⟩ := h4 rfl
      obtain ⟨rs, env', k1, k2, k3⟩ := compL_sub enc enc' P (ys := ys) (acc := acc ++ [enc' y]) (j := j + 1) e2 next (by simp; omega)
      have hs : acc.length < sizeLine := by omega
      exact ⟨y :: rs, env', by simp only [List.map_cons, compL, h1, h2, e1, if_pos hs, k1, List.append_assoc, List.singleton_append], k2.cons_cons y, by rw [List.length_cons, show j + (ys.length + 1) = j + 1 + ys.length by omega]; exact k3⟩
/-- some of the things of a list of its own -/
def SomeC (f : Nat) (C : CallF) : Prop := ∀ d i (l : List Int), PenOK d i → l.length ≤ 100 → i + l.length ≤ 2147483648 →
  ∃ (r : List Int) (d' : PyData), C f [(d, true), (.list (l.map .int), true)] = some (.list (r.map .int), true, [(d', true), (.list (l.map .int), true)]) ∧ r.Sublist l ∧ PenOK d' (i + l.length)
section
variable {Γ : List Fn} {f n f_draw f_meets f_test f_some f_turned f_room f_class f_cup : Nat} {C : CallF}
theorem some_lev (hf : Γ[f]? = some (ir__law_some f_draw)) (hD : Lev Γ n (DrawC f_draw)) : Lev Γ (n + 1) (SomeC f) := by
  refine lev_of fun k hk d i l hd hl hi => ?_
  rw [call_at hf]
  obtain ⟨rs, env', b1, b2, d', rfl, b3⟩ := compL_sub (t := .nm 2) (own := [2]) (cs := evCs (call Γ k) (ir__law_some_c1 f_draw)) (e := ev (call Γ k) ir__law_some_e1) PyData.int PyData.int (fun j env => ∃ d', env = [some (d', .b), none, none] ∧ PenOK d' (i + j)) (ys := l) (acc := []) (j := 0)
    (env := [some (d, .b), none, none]) ⟨d, rfl, hd⟩ (by
      rintro j y env hy ⟨d2, rfl, hp⟩
      have hj := (List.getElem?_eq_some_iff.1 hy).1
      obtain ⟨r, d3, c1, c2, c3, c4⟩ := hD k hk d2 _ 2 hp (by omega) (by decide) (by decide)
      refine ⟨_, decide (r = 0), [some (d3, .b), none, some (.int y, .p)], rfl, ?_, fun _ => ⟨d3, rfl, c4.le (by omega)⟩, fun _ => ⟨false, [some (d3, .b), none, some (.int y, .p)], ?_, d3, rfl, c4.le (by omega)⟩⟩
      · by_cases h : r = 0
        · subst h; simp [ir__law_some_c1, evCs, runFn, exs, ex, ev, evs, evArgs, evO, evAnd, evOr, evIt, entry, tst, truE, rdOf, tkOf, fstOf, lateOf, quiet, quiets, quietO, pers, look, keepV, readV, takeV, copV, bopV, biV, bi2V, truV, fin, okFin, finals, callNow, argsNow, argNow, lent, back, hidOf, hid2Of, VI.bind, VI.binds, tgs, tgss, asgI, asgs, wipeE, unset, keepP, items, c1, pyEqI, pyEqS, pyEqB, pyEqSI, pyEqIS, pyEqNI, pyEqIN, pyEqNN, pyEqNil]
        · simp [ir__law_some_c1, evCs, runFn, exs, ex, ev, evs, evArgs, evO, evAnd, evOr, evIt, entry, tst, truE, rdOf, tkOf, fstOf, lateOf, quiet, quiets, quietO, pers, look, keepV, readV, takeV, copV, bopV, biV, bi2V, truV, fin, okFin, finals, callNow, argsNow, argNow, lent, back, hidOf, hid2Of, VI.bind, VI.binds, tgs, tgss, asgI, asgs, wipeE, unset, keepP, items, c1, pyEqI, pyEqS, pyEqB, pyEqSI, pyEqIS, pyEqNI, pyEqIN, pyEqNN, pyEqNil, h]
      · simp [ir__law_some_e1, runFn, exs, ex, ev, evs, evArgs, evO, evAnd, evOr, evIt, entry, tst, truE, rdOf, tkOf, fstOf, lateOf, quiet, quiets, quietO, pers, look, keepV, readV, takeV, copV, bopV, biV, bi2V, truV, fin, okFin, finals, callNow, argsNow, argNow, lent, back, hidOf, hid2Of, VI.bind, VI.binds, tgs, tgss, asgI, asgs, wipeE, unset, keepP, items]) (sizeLine_big (by simp; omega))
  refine ⟨rs, d', ?_, b2, b3.le (by omega)⟩
  simp at b1
  simp [ir__law_some, runFn, exs, ex, ev, evs, evArgs, evO, evAnd, evOr, evIt, entry, tst, truE, rdOf, tkOf, fstOf, lateOf, quiet, quiets, quietO, pers, look, keepV, readV, takeV, copV, bopV, biV, bi2V, truV, fin, okFin, finals, callNow, argsNow, argNow, lent, back, hidOf, hid2Of, VI.bind, VI.binds, tgs, tgss, asgI, asgs, wipeE, unset, keepP, items, b1]
theorem erase_perm : ∀ {l : List PyData} {m : Nat} (h : m < l.length), (l[m] :: l.eraseIdx m).Perm l
  | x :: l, 0, _ => List.Perm.refl _
  | x :: l, m + 1, h => by
    have ih := erase_perm (l := l) (m := m) (by simpa using h)
    simp only [List.getElem_cons_succ, List.eraseIdx_cons_succ]
    exact (List.Perm.swap x _ _).trans (List.Perm.cons x ih)
def TurnedC (f : Nat) (C : CallF) : Prop := ∀ d i (l : List PyData), PenOK d i → l.length ≤ 100 → i + l.length ≤ 2147483648 →
  ∃ (r : List PyData) (d' : PyData), C f [(d, true), (.list l, true)] = some (.list r, true, [(d', true), (.list l, true)]) ∧ r.Perm l ∧ PenOK d' (i + l.length)
theorem turned_lev (hf : Γ[f]? = some (ir__law_turned f_draw)) (hD : Lev Γ n (DrawC f_draw)) : Lev Γ (n + 1) (TurnedC f) := by
  refine lev_of fun k hk d i l hd hl hi => ?_
  rw [call_at hf]
  obtain ⟨rs, env', b1, d', rest, rfl, b2, b3, b4⟩ := compL_inv (t := .nm 3) (own := [3]) (cs := evCs (call Γ k) []) (e := ev (call Γ k) (ir__law_turned_e1 f_draw)) (fun j acc env => ∃ d' rest, env = [some (d', .b), some (.list l, .b), some (.list rest, .o), none] ∧ PenOK d' (i + j) ∧ (acc ++ rest).Perm l ∧ acc.length = j)
    (xs := (List.range l.length).map fun (i : Nat) => PyData.int i) (n := 0) (acc := []) (env := [some (d, .b), some (.list l, .b), some (.list l, .o), none]) ⟨d, l, rfl, hd, List.Perm.refl _, rfl⟩ (by
      rintro j y acc env hy ⟨d2, rest, rfl, hp, hpm, hal⟩
      have hj := (List.getElem?_eq_some_iff.1 hy).1
      simp at hj
      have hlen := hpm.length_eq
      rw [List.length_append] at hlen
      have hrl : 0 < rest.length := by omega
      obtain ⟨r, d3, c1, c2, c3, c4⟩ := hD k hk d2 _ rest.length hp (by omega) (by omega) (by omega)
      obtain ⟨m, rfl⟩ : ∃ m : Nat, r = m := ⟨r.toNat, by omega⟩
      have hm : m < rest.length := by omega
      have e1 : L2.ixN rest.length (m : Int) = some m := by
        unfold L2.ixN
        simp
        omega
      have e2 : (m : Int).natAbs < 9223372036854775808 := by omega
      have e3 : rest[m]? = some rest[m] := List.getElem?_eq_getElem hm
      refine ⟨_, true, _, rfl, rfl, fun h => (by cases h), fun _ => ⟨rest[m], false, [some (d3, .b), some (.list l, .b), some (.list (rest.eraseIdx m), .o), some (y, .p)], ?_, sizeLine_big (n := acc.length + 1) (by omega), d3, rest.eraseIdx m, rfl, c4.le (by omega), ?_, by simp [hal]⟩⟩
      · simp [ir__law_turned_e1, runFn, exs, ex, ev, evs, evArgs, evO, evAnd, evOr, evIt, entry, tst, truE, rdOf, tkOf, fstOf, lateOf, quiet, quiets, quietO, pers, look, keepV, readV, takeV, copV, bopV, biV, bi2V, truV, fin, okFin, finals, callNow, argsNow, argNow, lent, back, hidOf, hid2Of, VI.bind, VI.binds, tgs, tgss, asgI, asgs, wipeE, unset, keepP, items, c1, muV, popV, e1, e3, show m < 9223372036854775808 by omega]
      · have hp2 : (rest[m] :: rest.eraseIdx m).Perm rest := by
          exact erase_perm hm
        rw [List.append_assoc]
        exact ((List.Perm.append_left acc hp2)).trans hpm)
  have hnil : rest = [] := by
    have := b3.length_eq
    rw [List.length_append] at this
    simp at b4
    have : rest.length = 0 := by omega
    exact List.eq_nil_of_length_eq_zero this
  subst hnil
  rw [List.append_nil] at b3
  refine ⟨rs, d', ?_, b3, b2.le (by simp)⟩
  have h62 : int62 (l.length : Int) = true := by simp only [int62, decide_eq_true_eq]; omega
  simp [ir__law_turned, runFn, exs, ex, ev, evs, evArgs, evO, evAnd, evOr, evIt, entry, tst, truE, rdOf, tkOf, fstOf, lateOf, quiet, quiets, quietO, pers, look, keepV, readV, takeV, copV, bopV, biV, bi2V, truV, fin, okFin, finals, callNow, argsNow, argNow, lent, back, hidOf, hid2Of, VI.bind, VI.binds, tgs, tgss, asgI, asgs, wipeE, unset, keepP, items, h62, rngD0, b1]
theorem fmod_wrap {x m : Int} (h0 : 0 ≤ x) (h2 : x < 2 * m) (hm : 0 < m) : x.fmod m = if x < m then x else x - m := by
  rw [Int.fmod_eq_emod_of_nonneg _ (by omega)]
  split
  · exact Int.emod_eq_of_lt h0 (by assumption)
  · have : x % m = (x - m) % m := by
      have := Int.add_mul_emod_self_right (x - m) 1 m
      rw [Int.one_mul] at this
      rw [← this]
      congr 1
      omega
    rw [this]
    exact Int.emod_eq_of_lt (by omega) (by omega)
def ClassC (f : Nat) (C : CallF) : Prop := ∀ d i room (many c : Int) (rising : Bool), PenOK d i → IsRoom room → 0 ≤ c → c < many → many ≤ 6 → i + 140 ≤ 2147483648 →
  ∃ (cl : Cls) (d' : PyData), C f [(d, true), (T room, false), (.int many, false), (.int c, false), (.bool rising, false)] = some (cl.enc, false, [(d', true), (T room, false), (.int many, false), (.int c, false), (.bool rising, false)]) ∧ ClsOK room many c cl ∧ PenOK d' (i + 140)
theorem cls_mov {d : PyData} {i : Nat} {room : List Int} {many c : Int} {rising : Bool} {ms : List (Tst × Int)} {s6 s7 s8 s9 : Slot} (hD : DrawC f_draw C) (hT : TestC f_test 5 C) (hd : PenOK d i) (hr : IsRoom room) (h0 : 0 ≤ c) (h1 : c < many) (h6 : many ≤ 6) (hl : ms.length ≤ 4) (hi : i + 29 ≤ 2147483648) :
    ∃ (d' : PyData) (ms' : List (Tst × Int)) (s7' : Slot), exs C (ir__law_class_b1 f_test f_draw) [some (d, .b), some (T room, .p), some (.int many, .p), some (.int c, .p), some (.bool rising, .p), some (.list (ms.map movD), .o), s6, s7, s8, s9] =
      some (.nx, [some (d', .b), some (T room, .p), some (.int many, .p), some (.int c, .p), some (.bool rising, .p), some (.list ((ms ++ ms').map movD), .o), s6, s7', s8, s9]) ∧ (∀ p ∈ ms', MovOK room many c p) ∧ ms'.length ≤ 1 ∧ PenOK d' (i + 29) := by
  obtain ⟨r, d1, a1, a2, a3, a4⟩ := hD d i 3 hd (by omega) (by decide) (by decide)
  obtain ⟨left, hm, hx⟩ := pick (l := [9, 3, 1]) a2 (by simpa using a3)
  have hl2 : 1 ≤ left ∧ left ≤ 9 := by
    simp at hm
    omega
  obtain ⟨t, d2, b1, b2, b3, b4, b5⟩ := hT d1 _ room left 5 a4 hr hl2.1 (by omega) (by decide) (by decide) (by omega)
  have hs : ms.length < sizeLine := sizeLine_big (n := ms.length + 1) (by omega)
  simp at hx
  by_cases hA : 1 < many ∧ rising = false
  · obtain ⟨hA, rfl⟩ := hA
    obtain ⟨q, d3, c1, c2, c3, c4⟩ := hD d2 _ (many - 1) b5 (by omega) (by omega) (by omega)
    have hw := fmod_wrap (x := c + 1 + q) (m := many) (by omega) (by omega) (by omega)
    have hne : many ≠ 0 := by omega
    refine ⟨d3, [(t, (c + 1 + q).fmod many)], some (t.enc, .p), ?_, ?_, by simp, c4.le (by omega)⟩
    · simp [ir__law_class_b1, runFn, exs, ex, ev, evs, evArgs, evO, evAnd, evOr, evIt, entry, tst, truE, rdOf, tkOf, fstOf, lateOf, quiet, quiets, quietO, pers, look, keepV, readV, takeV, copV, bopV, biV, bi2V, truV, fin, okFin, finals, callNow, argsNow, argNow, lent, back, hidOf, hid2Of, VI.bind, VI.binds, tgs, tgss, asgI, asgs, wipeE, unset, keepP, items, a1, hx, b1, hA, c1, muV, appendV, hs, movD, hne]
    · intro p hp
      simp at hp
      subst hp
      have hb : 0 ≤ (c + 1 + q).fmod many ∧ (c + 1 + q).fmod many < many ∧ (c + 1 + q).fmod many ≠ c := by
        rw [hw]
        split <;> omega
      exact ⟨b2, by dsimp only; omega, by dsimp only; omega, hb.1, hb.2.1, hb.2.2⟩
  · by_cases hB : c + 1 < many
    · obtain ⟨q, d3, c1, c2, c3, c4⟩ := hD d2 _ (many - c - 1) b5 (by omega) (by omega) (by omega)
      have hr2 : rising = true := by
        cases rising with
        | true => rfl
        | false => exact absurd ⟨by omega, rfl⟩ hA
      subst hr2
      refine ⟨d3, [(t, c + 1 + q)], some (t.enc, .p), ?_, ?_, by simp, c4.le (by omega)⟩
      · have hm1 : 1 < many := by omega
        simp [ir__law_class_b1, runFn, exs, ex, ev, evs, evArgs, evO, evAnd, evOr, evIt, entry, tst, truE, rdOf, tkOf, fstOf, lateOf, quiet, quiets, quietO, pers, look, keepV, readV, takeV, copV, bopV, biV, bi2V, truV, fin, okFin, finals, callNow, argsNow, argNow, lent, back, hidOf, hid2Of, VI.bind, VI.binds, tgs, tgss, asgI, asgs, wipeE, unset, keepP, items, a1, hx, b1, hm1, hB, c1, muV, appendV, hs, movD]
      · intro p hp
        simp at hp
        subst hp
        exact ⟨b2, by dsimp only; omega, by dsimp only; omega, by dsimp only; omega, by dsimp only; omega, by dsimp only; omega⟩
    · refine ⟨d2, [], some (t.enc, .p), ?_, by simp, by simp, b5.le (by omega)⟩
      by_cases hm1 : 1 < many
      · have hr2 : rising = true := by
          cases rising with
          | true => rfl
          | false => exact absurd ⟨hm1, rfl⟩ hA
        subst hr2
        simp [ir__law_class_b1, runFn, exs, ex, ev, evs, evArgs, evO, evAnd, evOr, evIt, entry, tst, truE, rdOf, tkOf, fstOf, lateOf, quiet, quiets, quietO, pers, look, keepV, readV, takeV, copV, bopV, biV, bi2V, truV, fin, okFin, finals, callNow, argsNow, argNow, lent, back, hidOf, hid2Of, VI.bind, VI.binds, tgs, tgss, asgI, asgs, wipeE, unset, keepP, items, a1, hx, b1, hm1, hB]
      · simp [ir__law_class_b1, runFn, exs, ex, ev, evs, evArgs, evO, evAnd, evOr, evIt, entry, tst, truE, rdOf, tkOf, fstOf, lateOf, quiet, quiets, quietO, pers, look, keepV, readV, takeV, copV, bopV, biV, bi2V, truV, fin, okFin, finals, callNow, argsNow, argNow, lent, back, hidOf, hid2Of, VI.bind, VI.binds, tgs, tgss, asgI, asgs, wipeE, unset, keepP, items, a1, hx, b1, hm1, hB]
theorem cls_split {d : PyData} {i : Nat} {room : List Int} {s2 s3 s4 s5 s7 s9 : Slot} {ss : List (Int × Int × Int)} {k : Nat} (hk : k < 2) (hD : DrawC f_draw C) (hd : PenOK d i) (hr : IsRoom room) (hl : ss.length ≤ 4) (hi : i + 3 ≤ 2147483648) :
    ∃ (d' : PyData) (x : Int × Int × Int), exs C (ir__law_class_b2 f_draw) [some (d, .b), some (T room, .p), s2, s3, s4, s5, some (.int k, .p), s7, some (.list (ss.map splitD), .o), s9] =
      some (.nx, [some (d', .b), some (T room, .p), s2, s3, s4, s5, some (.int k, .p), s7, some (.list ((ss ++ [x]).map splitD), .o), s9]) ∧ SplitOK room x ∧ PenOK d' (i + 3) := by
  have hrl := hr.1
  have hrl2 := hr.2.1
  obtain ⟨t, d1, a1, a2, a3, a4⟩ := hD d i room.length hd (by omega) (by omega) (by omega)
  have hs : ss.length < sizeLine := sizeLine_big (n := ss.length + 1) (by omega)
  obtain ⟨x, hm, hx⟩ := pick (l := [8, 3]) (r := k) (by omega) (by simp; omega)
  obtain ⟨y, hn, hy⟩ := pick (l := [3, 8]) (r := k) (by omega) (by simp; omega)
  have hx2 : 3 ≤ x ∧ x ≤ 8 := by simp at hm; omega
  have hy2 : 3 ≤ y ∧ y ≤ 8 := by simp at hn; omega
  obtain ⟨u, d2, b1, b2, b3, b4⟩ := hD d1 _ x a4 (by omega) (by omega) (by omega)
  obtain ⟨v, d3, c1, c2, c3, c4⟩ := hD d2 _ y b4 (by omega) (by omega) (by omega)
  refine ⟨d3, (t, 1 + u, 1 + v), ?_, ⟨⟨a2, a3⟩, ⟨by dsimp only; omega, by dsimp only; omega⟩, by dsimp only; omega, by dsimp only; omega⟩, c4.le (by omega)⟩
  simp at hx hy
  simp [ir__law_class_b2, runFn, exs, ex, ev, evs, evArgs, evO, evAnd, evOr, evIt, entry, tst, truE, rdOf, tkOf, fstOf, lateOf, quiet, quiets, quietO, pers, look, keepV, readV, takeV, copV, bopV, biV, bi2V, truV, fin, okFin, finals, callNow, argsNow, argNow, lent, back, hidOf, hid2Of, VI.bind, VI.binds, tgs, tgss, asgI, asgs, wipeE, unset, keepP, items, a1, hx, hy, b1, c1, muV, appendV, hs, splitD]
theorem class_lev (hf : Γ[f]? = some (ir__law_class f_draw f_test)) (hD : Lev Γ n (DrawC f_draw)) (hT : Lev Γ n (TestC f_test 5)) : Lev Γ (n + 1) (ClassC f) := by
  refine lev_of fun k hk d i room many c rising hd hr h0 h1 h6 hi => ?_
  rw [call_at hf]
  have hD := hD k hk
  have hT := hT k hk
  obtain ⟨r, d1, a1, a2, a3, a4⟩ := hD d i 5 hd (by omega) (by decide) (by decide)
  obtain ⟨env1, b1, d2, ms, s6, s7, rfl, b2, b3, b4⟩ := forL_pre (t := .nm 6) (b := exs (call Γ k) (ir__law_class_b1 f_test f_draw)) (fun (i : Nat) => PyData.int i) (fun pre env => ∃ d' ms s6 s7, env = [some (d', .b), some (T room, .p), some (.int many, .p), some (.int c, .p), some (.bool rising, .p), some (.list (ms.map movD), .o), s6, s7, none, none] ∧ (∀ p ∈ ms, MovOK room many c p) ∧ ms.length ≤ pre.length ∧ PenOK d' (i + 1 + 29 * pre.length))
    (all := List.range r.toNat) (ys := List.range r.toNat) (pre := []) (env := [some (d1, .b), some (T room, .p), some (.int many, .p), some (.int c, .p), some (.bool rising, .p), some (.list [], .o), none, none, none, none]) rfl ⟨d1, [], none, none, rfl, by simp, by simp, a4⟩ (by
      rintro pre y post env ha ⟨d2, ms, s6, s7, rfl, hm, hl, hp⟩
      have hl2 := congrArg List.length ha
      simp at hl2
      obtain ⟨d3, ms', s7', e1, e2, e3, e4⟩ := cls_mov (C := call Γ k) (rising := rising) (ms := ms) (s6 := some (.int y, .p)) (s7 := s7) (s8 := none) (s9 := none) hD hT hp hr h0 h1 h6 (by omega) (by omega)
      refine ⟨_, _, rfl, Or.inl e1, d3, ms ++ ms', _, s7', rfl, ?_, by simp; omega, e4.le (by simp; omega)⟩
      intro p hp
      rcases List.mem_append.1 hp with h | h
      · exact hm p h
      · exact e2 p h)
  obtain ⟨q, d3, c1, c2, c3, c4⟩ := hD d2 _ 3 b4 (by simp; omega) (by decide) (by decide)
  obtain ⟨env2, e1, d4, ss, s6', rfl, e2, e3, e4⟩ := forL_pre (t := .nm 6) (b := exs (call Γ k) (ir__law_class_b2 f_draw)) (fun (i : Nat) => PyData.int i) (fun pre env => ∃ d' ss s6, env = [some (d', .b), some (T room, .p), some (.int many, .p), some (.int c, .p), some (.bool rising, .p), some (.list (ms.map movD), .o), s6, s7, some (.list (ss.map splitD), .o), none] ∧ (∀ p ∈ ss, SplitOK room p) ∧ ss.length = pre.length ∧ PenOK d' (i + 1 + 116 + 1 + 3 * pre.length))
    (all := List.range q.toNat) (ys := List.range q.toNat) (pre := []) (env := [some (d3, .b), some (T room, .p), some (.int many, .p), some (.int c, .p), some (.bool rising, .p), some (.list (ms.map movD), .o), s6, s7, some (.list [], .o), none]) rfl ⟨d3, [], s6, rfl, by simp, by simp, c4.le (by simp; omega)⟩ (by
      rintro pre y post env ha ⟨d2, ss, s6, rfl, hm, hl, hp⟩
      have hl2 := congrArg List.length ha
      simp at hl2
      have hy : y < 2 := by
        have : y ∈ List.range q.toNat := by rw [ha]; simp
        have := List.mem_range.1 this
        omega
      obtain ⟨d3, x, g1, g2, g3⟩ := cls_split (C := call Γ k) (s2 := some (.int many, .p)) (s3 := some (.int c, .p)) (s4 := some (.bool rising, .p)) (s5 := some (.list (ms.map movD), .o)) (s7 := s7) (s9 := none) (ss := ss) hy hD hp hr (by omega) (by omega)
      refine ⟨_, _, rfl, Or.inl g1, d3, ss ++ [x], _, rfl, ?_, by simp; omega, g3.le (by simp; omega)⟩
      intro p hp
      rcases List.mem_append.1 hp with h | h
      · exact hm p h
      · simp at h; subst h; exact g2)
  simp at b3 e3
  obtain ⟨w, d5, g1, g2, g3, g4⟩ := hD d4 _ 3 e4 (by simp; omega) (by decide) (by decide)
  obtain ⟨ps, env3, m1, m2, m3, d6, rfl, m4⟩ := compL_draws (C := call Γ k) (t := .nm 6) (own := [6]) (e := ev (call Γ k) (ir__law_class_e1 f_draw)) (fun (i : Nat) => PyData.int i) PyData.int (fun (w : Int) => 0 ≤ w ∧ w ≤ 99)
      (fun j env => ∃ d', env = [some (d', .b), some (T room, .p), some (.int many, .p), some (.int c, .p), some (.bool rising, .p), some (.list (ms.map movD), .o), none, s7, some (.list (ss.map splitD), .o), none] ∧ PenOK d' (i + 128 + 3 * j)) (ys := List.range (1 + w).toNat) (acc := []) (j := 0) (env := [some (d5, .b), some (T room, .p), some (.int many, .p), some (.int c, .p), some (.bool rising, .p), some (.list (ms.map movD), .o), none, s7, some (.list (ss.map splitD), .o), none]) ⟨d5, rfl, g4.le (by simp; omega)⟩ (by
        rintro j y env hy ⟨d2, rfl, hp⟩
        have hj := (List.getElem?_eq_some_iff.1 hy).1
        simp at hj
        obtain ⟨u, e1, p1, p2, p3, p4⟩ := hD d2 _ 6 hp (by omega) (by decide) (by decide)
        obtain ⟨v, e2, q1, q2, q3, q4⟩ := hD e1 _ 100 p4 (by omega) (by decide) (by decide)
        obtain ⟨x, e3, r1, r2, r3, r4⟩ := hD e2 _ 2 q4 (by omega) (by decide) (by decide)
        obtain ⟨z, hm, hx⟩ := pick (l := [u, 99 - v]) r2 (by simpa using r3)
        have hz : 0 ≤ z ∧ z ≤ 99 := by simp at hm; omega
        simp at hx
        refine ⟨_, z, false, [some (e3, .b), some (T room, .p), some (.int many, .p), some (.int c, .p), some (.bool rising, .p), some (.list (ms.map movD), .o), some (.int y, .p), s7, some (.list (ss.map splitD), .o), none], rfl, ?_, hz, e3, rfl, r4.le (by omega)⟩
        simp [ir__law_class_e1, runFn, exs, ex, ev, evs, evArgs, evO, evAnd, evOr, evIt, entry, tst, truE, rdOf, tkOf, fstOf, lateOf, quiet, quiets, quietO, pers, look, keepV, readV, takeV, copV, bopV, biV, bi2V, truV, fin, okFin, finals, callNow, argsNow, argNow, lent, back, hidOf, hid2Of, VI.bind, VI.binds, tgs, tgss, asgI, asgs, wipeE, unset, keepP, items, p1, q1, r1, hx]) (sizeLine_big (by simp; omega))
  simp at m1 m2 m4
  refine ⟨⟨ms, ss, ps⟩, d6, ?_, ⟨b2, by dsimp only; omega, e2, by dsimp only; omega, m3, by dsimp only; omega, by dsimp only; omega⟩, m4.le (by omega)⟩
  have z1 : int62 r = true := by simp only [int62, decide_eq_true_eq]; omega
  have z2 : int62 q = true := by simp only [int62, decide_eq_true_eq]; omega
  have z3 : int62 (1 + w) = true := by simp only [int62, decide_eq_true_eq]; omega
  cases s6' with
  | none => simp [ir__law_class, runFn, exs, ex, ev, evs, evArgs, evO, evAnd, evOr, evIt, entry, tst, truE, rdOf, tkOf, fstOf, lateOf, quiet, quiets, quietO, pers, look, keepV, readV, takeV, copV, bopV, biV, bi2V, truV, fin, okFin, finals, callNow, argsNow, argNow, lent, back, hidOf, hid2Of, VI.bind, VI.binds, tgs, tgss, asgI, asgs, wipeE, unset, keepP, items, a1, z1, rngD0, b1, c1, z2, e1, g1, z3, m1, Cls.enc]
  | some p => 
    obtain ⟨pd, pf⟩ := p
    cases pf <;> simp [ir__law_class, runFn, exs, ex, ev, evs, evArgs, evO, evAnd, evOr, evIt, entry, tst, truE, rdOf, tkOf, fstOf, lateOf, quiet, quiets, quietO, pers, look, keepV, readV, takeV, copV, bopV, biV, bi2V, truV, fin, okFin, finals, callNow, argsNow, argNow, lent, back, hidOf, hid2Of, VI.bind, VI.binds, tgs, tgss, asgI, asgs, wipeE, unset, keepP, items, a1, z1, rngD0, b1, c1, z2, e1, g1, z3, m1, Cls.enc]
/-- a list of the numbers below -/
def CupC (f : Nat) (C : CallF) : Prop := ∀ d i (many k : Int), PenOK d i → 1 ≤ many → many ≤ 6 → 0 ≤ k → k ≤ 6 → i + 30 ≤ 2147483648 →
  ∃ (cu : Cup) (d' : PyData), C f [(d, true), (.int many, false), (.int k, false)] = some (cu.enc, false, [(d', true), (.int many, false), (.int k, false)]) ∧ CupOK many k cu ∧ PenOK d' (i + 30)
theorem rngD_rngI (n : Int) : rngD 0 n = (rngI n).map .int := by simp [rngD, rngI]
theorem cup_lev (hf : Γ[f]? = some (ir__law_cup f_some f_draw f_turned)) (hD : Lev Γ n (DrawC f_draw)) (hS : Lev Γ n (SomeC f_some)) (hT : Lev Γ n (TurnedC f_turned)) : Lev Γ (n + 1) (CupC f) := by
  refine lev_of fun j hj d i many k hd h1 h6 k0 k6 hi => ?_
  rw [call_at hf]
  have hD := hD j hj
  have hS := hS j hj
  have hT := hT j hj
  have lm : (rngI many).length ≤ 6 := by simp [rngI]; omega
  have lk : (rngI k).length ≤ 6 := by simp [rngI]; omega
  obtain ⟨o, d1, a1, a2, a3⟩ := hS d i (rngI many) hd (by omega) (by omega)
  have a3 := a3.le (j := i + 6) (by omega)
  -- what it is of
  obtain ⟨of_, d2, o1, o2, o3, o4⟩ : ∃ (of_ : List Int) (d2 : PyData), (∀ s4 s5 s6 s7 : Slot, ex (call Γ j) (.ifs (.cmp .eq (.var 3) (.lst [])) [(.asg (.nm 3) (.lst [(.call f_draw [(.var 0), (.var 1)])]))] []) [some (d1, .b), some (.int many, .p), some (.int k, .p), some (.list (o.map .int), .o), s4, s5, s6, s7] =
      some (.nx, [some (d2, .b), some (.int many, .p), some (.int k, .p), some (.list (of_.map .int), .o), s4, s5, s6, s7])) ∧ of_.Sublist (rngI many) ∧ of_ ≠ [] ∧ PenOK d2 (i + 7) := by
    cases o with
    | nil =>
      obtain ⟨r, d2, b1, b2, b3, b4⟩ := hD d1 _ many a3 (by omega) (by omega) (by omega)
      refine ⟨[r], d2, fun s4 s5 s6 s7 => by simp [runFn, exs, ex, ev, evs, evArgs, evO, evAnd, evOr, evIt, entry, tst, truE, rdOf, tkOf, fstOf, lateOf, quiet, quiets, quietO, pers, look, keepV, readV, takeV, copV, bopV, biV, bi2V, truV, fin, okFin, finals, callNow, argsNow, argNow, lent, back, hidOf, hid2Of, VI.bind, VI.binds, tgs, tgss, asgI, asgs, wipeE, unset, keepP, items, pyEqI, pyEqS, pyEqB, pyEqSI, pyEqIS, pyEqNI, pyEqIN, pyEqNN, pyEqNil, b1], ?_, by simp, b4⟩
      rw [List.singleton_sublist]
      simp only [rngI, List.mem_map, List.mem_range]
      exact ⟨r.toNat, by omega, by omega⟩
    | cons x o => exact ⟨x :: o, d1, fun s4 s5 s6 s7 => by simp [runFn, exs, ex, ev, evs, evArgs, evO, evAnd, evOr, evIt, entry, tst, truE, rdOf, tkOf, fstOf, lateOf, quiet, quiets, quietO, pers, look, keepV, readV, takeV, copV, bopV, biV, bi2V, truV, fin, okFin, finals, callNow, argsNow, argNow, lent, back, hidOf, hid2Of, VI.bind, VI.binds, tgs, tgss, asgI, asgs, wipeE, unset, keepP, items, pyEqI, pyEqS, pyEqB, pyEqSI, pyEqIS, pyEqNI, pyEqIN, pyEqNN, pyEqNil], a2, by simp, a3.le (by omega)⟩
  obtain ⟨ns, d3, n1, n2, n3⟩ := hT d2 _ (measuresL.map .str) o4 (by simp [measuresL]) (by simp [measuresL]; omega)
  obtain ⟨q, d4, q1, q2, q3, q4⟩ := hD d3 _ 4 n3 (by simp [measuresL]; omega) (by decide) (by decide)
  obtain ⟨m, rfl⟩ : ∃ m : Nat, q = m := ⟨q.toNat, by omega⟩
  have q4 := q4.le (j := i + 14) (by simp [measuresL])
  -- the names
  obtain ⟨nl, hnl⟩ : ∃ nl : List Str, ns = nl.map .str := by
    clear n1
    have : ∀ x ∈ ns, ∃ s : Str, x = .str s := fun x hx => by
      have := n2.mem_iff.1 hx
      simp only [List.mem_map] at this
      obtain ⟨s, _, rfl⟩ := this
      exact ⟨s, rfl⟩
    clear n2 n3
    induction ns with
    | nil => exact ⟨[], rfl⟩
    | cons x ns ih =>
      obtain ⟨s, rfl⟩ := this x (List.mem_cons_self ..)
      obtain ⟨nl, rfl⟩ := ih fun y hy => this y (List.mem_cons_of_mem _ hy)
      exact ⟨s :: nl, rfl⟩
  subst hnl
  have hperm : nl.Perm measuresL := by
    have hu : ∀ l : List Str, (l.map PyData.str).filterMap (fun d => match d with | .str s => some s | _ => none) = l := fun l => by
      induction l with
      | nil => rfl
      | cons x l ih => simp only [List.map_cons, List.filterMap_cons, ih]
    have := n2.filterMap (fun d => match d with | .str s => some s | _ => none)
    rwa [hu, hu] at this
  have hcut : cutD (nl.map .str) none (some (1 + (m : Int))) = (nl.take (1 + m)).map .str := by
    have := cut_to (xs := nl.map .str) (1 + m)
    rw [Int.natCast_add] at this
    rw [show (1 + (m : Int)) = ((1 : Nat) : Int) + (m : Int) from rfl, this, List.map_take]
  have hlen : nl.length = 6 := by rw [hperm.length_eq]; rfl
  have hnd : nl.Nodup := hperm.nodup_iff.2 (by decide +kernel)
  obtain ⟨sts, env3, s1, s2, s3, d5, rfl, s4⟩ := compL_draw (C := call Γ j) (t := .nm 6) (own := [6]) (e := ev (call Γ j) (ir__law_cup_e1 f_draw)) PyData.str stepD (fun (y : Str) (r : Str × Int) => r.1 = y ∧ (r.2 = 1 ∨ r.2 = -1))
    (fun a env => ∃ d', env = [some (d', .b), some (.int many, .p), some (.int k, .p), some (.list (of_.map .int), .o), none, none, none, none] ∧ PenOK d' (i + 14 + a)) (ys := nl.take (1 + m)) (acc := []) (j := 0)
    (env := [some (d4, .b), some (.int many, .p), some (.int k, .p), some (.list (of_.map .int), .o), none, none, none, none]) ⟨d4, rfl, q4⟩ (by
      rintro a y env hy ⟨d2, rfl, hp⟩
      have hj := (List.getElem?_eq_some_iff.1 hy).1
      simp at hj
      obtain ⟨r, d3, c1, c2, c3, c4⟩ := hD d2 _ 3 hp (by omega) (by decide) (by decide)
      obtain ⟨z, hm, hx⟩ := pick (l := [1, 1, -1]) c2 (by simpa using c3)
      have hz : z = 1 ∨ z = -1 := by simp at hm; exact hm
      simp at hx
      refine ⟨_, (y, z), false, [some (d3, .b), some (.int many, .p), some (.int k, .p), some (.list (of_.map .int), .o), none, none, some (.str y, .p), none], rfl, ?_, ⟨rfl, hz⟩, d3, rfl, c4.le (by omega)⟩
      simp [ir__law_cup_e1, runFn, exs, ex, ev, evs, evArgs, evO, evAnd, evOr, evIt, entry, tst, truE, rdOf, tkOf, fstOf, lateOf, quiet, quiets, quietO, pers, look, keepV, readV, takeV, copV, bopV, biV, bi2V, truV, fin, okFin, finals, callNow, argsNow, argNow, lent, back, hidOf, hid2Of, VI.bind, VI.binds, tgs, tgss, asgI, asgs, wipeE, unset, keepP, items, c1, hx, stepD]) (sizeLine_big (by simp; omega))
  have hsts : sts.map (·.1) = nl.take (1 + m) := by
    apply List.ext_getElem
    · simp [s2]
    · intro a h1 h2
      simp at h1
      have := s3 a _ _ (List.getElem?_eq_getElem h2) (List.getElem?_eq_getElem h1)
      simpa using this.1
  simp at s2
  have s4 := s4.le (j := i + 18) (by simp; omega)
  obtain ⟨w, d6, w1, w2, w3⟩ := hS d5 _ (rngI k) s4 (by omega) (by omega)
  have w3 := w3.le (j := i + 24) (by omega)
  obtain ⟨r, d7, r1, r2, r3, r4⟩ := hD d6 _ 2 w3 (by omega) (by decide) (by decide)
  obtain ⟨w', hx, hsub⟩ : ∃ w' : List Int, ixV (.list [.list (w.map .int), .list []]) (.int r) = some (.list (w'.map .int)) ∧ w'.Sublist (rngI k) := by
    have : r = 0 ∨ r = 1 := by omega
    rcases this with rfl | rfl
    · exact ⟨w, at0L, w2⟩
    · exact ⟨[], at1L, List.nil_sublist _⟩
  refine ⟨⟨of_, sts, w'⟩, d7, ?_, ⟨o2, o3, fun s hs => ?_, by dsimp only; rw [hsts]; exact hnd.sublist (List.take_sublist _ _), by dsimp only; omega, by dsimp only; omega, hsub⟩, r4.le (by omega)⟩
  · have z1 : rgOk 0 many = true := by simp only [rgOk, Bool.and_eq_true, decide_eq_true_eq]; omega
    have z2 : rgOk 0 k = true := by simp only [rgOk, Bool.and_eq_true, decide_eq_true_eq]; omega
    have om := o1 none none none none
    simp only [measuresL, List.map_cons, List.map_nil] at n1
    simp only [List.map_take] at hcut s1
    simp at s1
    have e1 : ex (call Γ j) (.asg (.nm 3) (.call f_some [(.var 0), (.lrg1 false (.var 1))])) [some (d, .b), some (.int many, .p), some (.int k, .p), none, none, none, none, none] =
        some (.nx, [some (d1, .b), some (.int many, .p), some (.int k, .p), some (.list (o.map .int), .o), none, none, none, none]) := by
      simp [runFn, exs, ex, ev, evs, evArgs, evO, evAnd, evOr, evIt, entry, tst, truE, rdOf, tkOf, fstOf, lateOf, quiet, quiets, quietO, pers, look, keepV, readV, takeV, copV, bopV, biV, bi2V, truV, fin, okFin, finals, callNow, argsNow, argNow, lent, back, hidOf, hid2Of, VI.bind, VI.binds, tgs, tgss, asgI, asgs, wipeE, unset, keepP, items, rgD, z1, rngD_rngI, a1]
    have head : exs (call Γ j) (ir__law_cup f_some f_draw f_turned).body [some (d, .b), some (.int many, .p), some (.int k, .p), none, none, none, none, none] =
        exs (call Γ j) ((ir__law_cup f_some f_draw f_turned).body.drop 2) [some (d2, .b), some (.int many, .p), some (.int k, .p), some (.list (of_.map .int), .o), none, none, none, none] := by
      show exs (call Γ j) (_ :: _ :: _) _ = _
      simp only [exs, e1, om]
      rfl
    have tl : exs (call Γ j) ((ir__law_cup f_some f_draw f_turned).body.drop 2) [some (d2, .b), some (.int many, .p), some (.int k, .p), some (.list (of_.map .int), .o), none, none, none, none] =
        some (.rt (Cup.enc ⟨of_, sts, w'⟩) false, [some (d7, .b), some (.int many, .p), some (.int k, .p), some (.list (of_.map .int), .o), some (.list ((nl.take (1 + m)).map .str), .o), some (.tuple (sts.map stepD), .p), none, some (.list (w'.map .int), .p)]) := by
      simp [ir__law_cup, runFn, exs, ex, ev, evs, evArgs, evO, evAnd, evOr, evIt, entry, tst, truE, rdOf, tkOf, fstOf, lateOf, quiet, quiets, quietO, pers, look, keepV, readV, takeV, copV, bopV, biV, bi2V, truV, fin, okFin, finals, callNow, argsNow, argNow, lent, back, hidOf, hid2Of, VI.bind, VI.binds, tgs, tgss, asgI, asgs, wipeE, unset, keepP, items, n1, q1, slV, hcut, s1, rgD, z2, rngD_rngI, w1, r1, hx, Cup.enc]
    rw [show runFn (call Γ j) (ir__law_cup f_some f_draw f_turned) [(d, true), (.int many, false), (.int k, false)] =
      (match exs (call Γ j) (ir__law_cup f_some f_draw f_turned).body [some (d, .b), some (.int many, .p), some (.int k, .p), none, none, none, none, none] with
        | some (.rt d' own, env) => fin (ir__law_cup f_some f_draw f_turned) [(d, true), (.int many, false), (.int k, false)] d' own env
        | some (.nx, env) => fin (ir__law_cup f_some f_draw f_turned) [(d, true), (.int many, false), (.int k, false)] .none false env
        | _ => none) from rfl, head, tl]
    simp [fin, okFin, finals, look, ir__law_cup]
  · obtain ⟨a, ha, rfl⟩ := List.getElem_of_mem hs
    have ha : a < sts.length := ha
    have ha2 : a < (nl.take (1 + m)).length := by simp; omega
    have := s3 a _ _ (List.getElem?_eq_getElem ha2) (List.getElem?_eq_getElem ha)
    refine ⟨?_, this.2⟩
    rw [this.1]
    exact hperm.mem_iff.1 (List.mem_of_mem_take (List.getElem_mem ha2))
def ShowC (f : Nat) (C : CallF) : Prop := ∀ d i (a b : Int), PenOK d i → 1 ≤ a → a ≤ 6 → 0 ≤ b → b ≤ 6 → i + 1100 ≤ 2147483648 →
  ∃ (s : Show) (d' : PyData), C f [(d, true), (.int a, false), (.int b, false)] = some (s.enc, false, [(d', true), (.int a, false), (.int b, false)]) ∧ ShowOK s ∧ (s.cls.length : Int) ≤ a ∧ (s.cups.length : Int) ≤ b ∧ PenOK d' (i + 1100)
theorem show_lev (hf : Γ[f]? = some (ir__law_show f_room f_draw f_class f_cup)) (hR : Lev Γ n (RoomC f_room)) (hD : Lev Γ n (DrawC f_draw)) (hC : Lev Γ n (ClassC f_class)) (hU : Lev Γ n (CupC f_cup)) : Lev Γ (n + 1) (ShowC f) := by
  refine lev_of fun k hk d i a b hd ha1 ha6 hb0 hb6 hi => ?_
  rw [call_at hf]
  have hD := hD k hk
  obtain ⟨room, d1, a1, a2, a3⟩ := hR k hk d i hd (by omega)
  obtain ⟨q, d2, b1, b2, b3, b4⟩ := hD d1 _ a a3 (by omega) (by omega) (by omega)
  obtain ⟨r, d3, c1, c2, c3, c4⟩ := hD d2 _ 3 b4 (by omega) (by decide) (by decide)
  obtain ⟨cls, env', e1, e2, e3, d4, rfl, e4⟩ := compL_draw (C := call Γ k) (t := .nm 7) (own := [7]) (e := ev (call Γ k) (ir__law_show_e1 f_class)) (fun (i : Nat) => PyData.int i) Cls.enc (fun (c : Nat) (cl : Cls) => ClsOK room (1 + q) c cl)
    (fun j env => ∃ d', env = [some (d', .b), some (.int a, .p), some (.int b, .p), some (T room, .p), some (.int (1 + q), .p), some (.bool (decide (0 < r)), .p), none, none, none] ∧ PenOK d' (i + 6 + 140 * j)) (ys := List.range (1 + q).toNat) (acc := []) (j := 0)
    (env := [some (d3, .b), some (.int a, .p), some (.int b, .p), some (T room, .p), some (.int (1 + q), .p), some (.bool (decide (0 < r)), .p), none, none, none]) ⟨d3, rfl, c4.le (by omega)⟩ (by
      rintro j y env hy ⟨d2, rfl, hp⟩
      obtain ⟨hj, hjy⟩ := List.getElem?_eq_some_iff.1 hy
      simp at hj hjy
      obtain ⟨cl, d3, p1, p2, p3⟩ := hC k hk d2 _ room (1 + q) y (decide (0 < r)) hp a2 (by omega) (by omega) (by omega) (by omega)
      refine ⟨_, cl, false, [some (d3, .b), some (.int a, .p), some (.int b, .p), some (T room, .p), some (.int (1 + q), .p), some (.bool (decide (0 < r)), .p), none, some (.int y, .p), none], rfl, ?_, p2, d3, rfl, p3.le (by omega)⟩
      simp [ir__law_show_e1, runFn, exs, ex, ev, evs, evArgs, evO, evAnd, evOr, evIt, entry, tst, truE, rdOf, tkOf, fstOf, lateOf, quiet, quiets, quietO, pers, look, keepV, readV, takeV, copV, bopV, biV, bi2V, truV, fin, okFin, finals, callNow, argsNow, argNow, lent, back, hidOf, hid2Of, VI.bind, VI.binds, tgs, tgss, asgI, asgs, wipeE, unset, keepP, items, p1]) (sizeLine_big (by simp; omega))
  simp at e1 e2 e4
  have e4 := e4.le (j := i + 846) (by omega)
  obtain ⟨u, d5, g1, g2, g3, g4⟩ := hD d4 _ (b + 1) e4 (by omega) (by omega) (by omega)
  obtain ⟨cups, env', m1, m2, m3, d6, rfl, m4⟩ := compL_draw (C := call Γ k) (t := .nm 8) (own := [8]) (e := ev (call Γ k) (ir__law_show_e2 f_cup)) (fun (i : Nat) => PyData.int i) Cup.enc (fun (c : Nat) (cu : Cup) => CupOK (1 + q) c cu)
    (fun j env => ∃ d', env = [some (d', .b), some (.int a, .p), some (.int b, .p), some (T room, .p), some (.int (1 + q), .p), some (.bool (decide (0 < r)), .p), some (.tuple (cls.map Cls.enc), .p), none, none] ∧ PenOK d' (i + 847 + 30 * j)) (ys := List.range u.toNat) (acc := []) (j := 0)
    (env := [some (d5, .b), some (.int a, .p), some (.int b, .p), some (T room, .p), some (.int (1 + q), .p), some (.bool (decide (0 < r)), .p), some (.tuple (cls.map Cls.enc), .p), none, none]) ⟨d5, rfl, g4.le (by omega)⟩ (by
      rintro j y env hy ⟨d2, rfl, hp⟩
      obtain ⟨hj, hjy⟩ := List.getElem?_eq_some_iff.1 hy
      simp at hj hjy
      obtain ⟨cu, d3, p1, p2, p3⟩ := hU k hk d2 _ (1 + q) y hp (by omega) (by omega) (by omega) (by omega) (by omega)
      refine ⟨_, cu, false, [some (d3, .b), some (.int a, .p), some (.int b, .p), some (T room, .p), some (.int (1 + q), .p), some (.bool (decide (0 < r)), .p), some (.tuple (cls.map Cls.enc), .p), none, some (.int y, .p)], rfl, ?_, p2, d3, rfl, p3.le (by omega)⟩
      simp [ir__law_show_e2, runFn, exs, ex, ev, evs, evArgs, evO, evAnd, evOr, evIt, entry, tst, truE, rdOf, tkOf, fstOf, lateOf, quiet, quiets, quietO, pers, look, keepV, readV, takeV, copV, bopV, biV, bi2V, truV, fin, okFin, finals, callNow, argsNow, argNow, lent, back, hidOf, hid2Of, VI.bind, VI.binds, tgs, tgss, asgI, asgs, wipeE, unset, keepP, items, p1]) (sizeLine_big (by simp; omega))
  simp at m1 m2 m4
  have hcl : (cls.length : Int) = 1 + q := by omega
  refine ⟨⟨room, cls, cups⟩, d6, ?_, ⟨a2, by dsimp only; omega, by dsimp only; omega, fun j cl hj => ?_, by dsimp only; omega, fun j cu hj => ?_⟩, by dsimp only; omega, by dsimp only; omega, m4.le (by omega)⟩
  · have z1 : int62 (1 + q) = true := by simp only [int62, decide_eq_true_eq]; omega
    have z2 : int62 u = true := by simp only [int62, decide_eq_true_eq]; omega
    simp [ir__law_show, runFn, exs, ex, ev, evs, evArgs, evO, evAnd, evOr, evIt, entry, tst, truE, rdOf, tkOf, fstOf, lateOf, quiet, quiets, quietO, pers, look, keepV, readV, takeV, copV, bopV, biV, bi2V, truV, fin, okFin, finals, callNow, argsNow, argNow, lent, back, hidOf, hid2Of, VI.bind, VI.binds, tgs, tgss, asgI, asgs, wipeE, unset, keepP, items, a1, b1, c1, z1, rngD0, e1, g1, z2, m1, Show.enc]
  · dsimp only at hj ⊢
    have hl := (List.getElem?_eq_some_iff.1 hj).1
    rw [hcl]
    exact e3 j j cl (by rw [List.getElem?_eq_getElem (by simp; omega)]; simp) hj
  · dsimp only at hj ⊢
    have hl := (List.getElem?_eq_some_iff.1 hj).1
    rw [hcl]
    exact m3 j j cu (by rw [List.getElem?_eq_getElem (by simp; omega)]; simp) hj
/-! ### where an entry is moved -/
def Cls.moved (c : Cls) (f : List Int) : Option Int := (c.movs.find? fun p => p.1.meets f).map (·.2)
def intD : Option Int → PyData
  | some i => .int i
  | none => .none
def MovedC (f : Nat) (C : CallF) : Prop := ∀ (s : Show) (c : Nat) (cl : Cls) (fs : List Int), ShowOK s → s.cls[c]? = some cl → fs.length = s.room.length → C f [(s.enc, false), (.int c, false), (T fs, false)] = some (intD (cl.moved fs), false, [(s.enc, false), (.int c, false), (T fs, false)])
theorem cls_at {s : Show} {c : Nat} {cl : Cls} (h : s.cls[c]? = some cl) : ixV (.tuple (s.cls.map Cls.enc)) (.int c) = some cl.enc := atI_of (by simp [h])
theorem moved_lev (hf : Γ[f]? = some (ir_moved f_meets)) (hM : Lev Γ n (MeetsC f_meets 5)) : Lev Γ (n + 1) (MovedC f) := by
  refine lev_of fun k hk s c cl fs hs hc hl => ?_
  rw [call_at hf]
  have hM := hM k hk
  have ok := hs.c c cl hc
  have hF := forL_find (t := .tp [.nm 3, .nm 4]) (b := exs (call Γ k) (ir_moved_b1 f_meets)) movD (fun p => p.1.meets fs) (fun p => .int p.2) (fun _ => false) (fun env => ∃ s3 s4, env = [some (s.enc, .p), some (.int c, .p), some (T fs, .p), s3, s4]) (fun env => ∃ s3 s4, env = [some (s.enc, .p), some (.int c, .p), some (T fs, .p), s3, s4]) (ys := cl.movs)
    (env := [some (s.enc, .p), some (.int c, .p), some (T fs, .p), none, none]) ⟨_, _, rfl⟩ (by
      rintro y hy env ⟨s3, s4, rfl⟩
      have mo := ok.m y hy
      have m1 := hM y.1 fs mo.deep (by rw [hl]; exact mo.fits.inl)
      refine ⟨_, [some (s.enc, .p), some (.int c, .p), some (T fs, .p), some (y.1.enc, .p), some (.int y.2, .p)], rfl, fun h => ⟨Or.inl ?_, _, _, rfl⟩, fun h => ⟨?_, _, _, rfl⟩⟩
      · rw [h] at m1; simp [ir_moved_b1, runFn, exs, ex, ev, evs, evArgs, evO, evAnd, evOr, evIt, entry, tst, truE, rdOf, tkOf, fstOf, lateOf, quiet, quiets, quietO, pers, look, keepV, readV, takeV, copV, bopV, biV, bi2V, truV, fin, okFin, finals, callNow, argsNow, argNow, lent, back, hidOf, hid2Of, VI.bind, VI.binds, tgs, tgss, asgI, asgs, wipeE, unset, keepP, items, m1]
      · rw [h] at m1; simp [ir_moved_b1, runFn, exs, ex, ev, evs, evArgs, evO, evAnd, evOr, evIt, entry, tst, truE, rdOf, tkOf, fstOf, lateOf, quiet, quiets, quietO, pers, look, keepV, readV, takeV, copV, bopV, biV, bi2V, truV, fin, okFin, finals, callNow, argsNow, argNow, lent, back, hidOf, hid2Of, VI.bind, VI.binds, tgs, tgss, asgI, asgs, wipeE, unset, keepP, items, m1])
  have e1 : ixV s.enc (.int 1) = some (.tuple (s.cls.map Cls.enc)) := at1
  have e2 := cls_at hc
  have e3 : ixV cl.enc (.int 0) = some (.tuple (cl.movs.map movD)) := at0
  unfold Cls.moved
  split at hF
  · rename_i e
    obtain ⟨env', h1, s3, s4, rfl⟩ := hF
    rw [e]
    simp [ir_moved, runFn, exs, ex, ev, evs, evArgs, evO, evAnd, evOr, evIt, entry, tst, truE, rdOf, tkOf, fstOf, lateOf, quiet, quiets, quietO, pers, look, keepV, readV, takeV, copV, bopV, biV, bi2V, truV, fin, okFin, finals, callNow, argsNow, argNow, lent, back, hidOf, hid2Of, VI.bind, VI.binds, tgs, tgss, asgI, asgs, wipeE, unset, keepP, items, e1, e2, e3, h1, intD]
  · rename_i y e
    obtain ⟨env', h1, s3, s4, rfl⟩ := hF
    rw [e]
    simp [ir_moved, runFn, exs, ex, ev, evs, evArgs, evO, evAnd, evOr, evIt, entry, tst, truE, rdOf, tkOf, fstOf, lateOf, quiet, quiets, quietO, pers, look, keepV, readV, takeV, copV, bopV, biV, bi2V, truV, fin, okFin, finals, callNow, argsNow, argNow, lent, back, hidOf, hid2Of, VI.bind, VI.binds, tgs, tgss, asgI, asgs, wipeE, unset, keepP, items, e1, e2, e3, h1, intD]
end
end VI
set_option maxRecDepth 100000
set_option maxHeartbeats 4000000
/-! Data that is small. -/
namespace VI
open PySem
structure Good (n d : Nat) (x : PyData) : Prop where
  s : smallD x = true
  d : x.depth ≤ d
  c : cntD x ≤ n
  h : x.hasDict = false
structure GoodL (n d : Nat) (xs : List PyData) : Prop where
  s : smallA xs = true
  d : PyData.depthAll xs ≤ d
  c : cntA xs ≤ n
  h : PyData.hasDictAll xs = false
theorem Good.mono {n d n' d' : Nat} {x : PyData} (g : Good n d x) (hn : n ≤ n') (hd : d ≤ d') : Good n' d' x := ⟨g.s, Nat.le_trans g.d hd, Nat.le_trans g.c hn, g.h⟩
theorem goodL_nil {d : Nat} : GoodL 0 d [] := ⟨rfl, by simp [PyData.depthAll], by simp [cntA], by simp [PyData.hasDictAll]⟩
theorem goodL_cons {n m d : Nat} {x : PyData} {xs : List PyData} (h : Good n d x) (t : GoodL m d xs) : GoodL (n + m) d (x :: xs) :=
  ⟨by simp only [smallA, h.s, t.s]; rfl, by have := h.d; have := t.d; simp only [PyData.depthAll]; omega, by have := h.c; have := t.c; simp only [cntA]; omega, by simp only [PyData.hasDictAll, h.h, t.h]; rfl⟩
theorem goodL_map {α : Type} {n d : Nat} (enc : α → PyData) : ∀ {xs : List α}, (∀ x ∈ xs, Good n d (enc x)) → GoodL (xs.length * n) d (xs.map enc)
  | [], _ => by rw [List.length_nil, Nat.zero_mul]; exact goodL_nil
  | x :: xs, h => by
    have := goodL_cons (h x (List.mem_cons_self ..)) (goodL_map enc (xs := xs) fun y hy => h y (List.mem_cons_of_mem _ hy))
    rw [List.length_cons, Nat.add_mul, Nat.one_mul, Nat.add_comm]
    exact this
theorem GoodL.mono {n d n' d' : Nat} {x : List PyData} (g : GoodL n d x) (hn : n ≤ n') (hd : d ≤ d') : GoodL n' d' x := ⟨g.s, Nat.le_trans g.d hd, Nat.le_trans g.c hn, g.h⟩
theorem GoodL.tup {n d : Nat} {xs : List PyData} (g : GoodL n d xs) : Good (1 + n) (d + 1) (.tuple xs) :=
  ⟨by simpa only [smallD] using g.s, by have := g.d; simp only [PyData.depth]; omega, by have := g.c; simp only [cntD]; omega, by simpa only [PyData.hasDict] using g.h⟩
theorem GoodL.lst {n d : Nat} {xs : List PyData} (g : GoodL n d xs) : Good (1 + n) (d + 1) (.list xs) :=
  ⟨by simpa only [smallD] using g.s, by have := g.d; simp only [PyData.depth]; omega, by have := g.c; simp only [cntD]; omega, by simpa only [PyData.hasDict] using g.h⟩
theorem good_int {i : Int} (h : i.natAbs ≤ 1000000) : Good 1 0 (.int i) := by
  have hs : i.natAbs < 10 ^ 100 := Nat.lt_of_le_of_lt h (Nat.lt_of_lt_of_le (by decide : 1000000 < 10 ^ 7) (Nat.pow_le_pow_right (by decide) (by decide)))
  exact ⟨by simp only [smallD, decide_eq_true hs], by simp [PyData.depth], by simp [cntD], rfl⟩
theorem good_none : Good 1 0 .none := ⟨rfl, by simp [PyData.depth], by simp [cntD], rfl⟩
theorem good_bool (b : Bool) : Good 1 0 (.bool b) := ⟨rfl, by simp [PyData.depth], by simp [cntD], rfl⟩
theorem good_ints {l : List Int} (h : ∀ x ∈ l, x.natAbs ≤ 1000000) : GoodL l.length 0 (l.map .int) := by
  have := goodL_map (n := 1) (d := 0) PyData.int (xs := l) fun x hx => good_int (h x hx)
  rwa [Nat.mul_one] at this
def strB (n : Nat) (x : Str) : Bool := (x.cps.toList.all fun c => decide (c < 1000000)) && decide (x.length ≤ n)
theorem good_str {n : Nat} {x : Str} (h : strB n x = true) : Good (1 + n) 0 (.str x) := by
  simp only [strB, Bool.and_eq_true, decide_eq_true_eq] at h
  exact ⟨by simpa only [smallD] using h.1, by simp [PyData.depth], by have := h.2; simp only [cntD]; omega, rfl⟩
theorem Good.shown {n d : Nat} {x : PyData} (g : Good n d x) (hn : n ≤ 100000) (hd : d ≤ 64) : x.showable = true ∧ x.depth ≤ 64 ∧ x.shown.length ≤ sizeLine ∧ x.hasDict = false := by
  obtain ⟨a1, a2, a3⟩ := repr_facts g.s (Nat.le_trans g.d hd) (Nat.le_trans g.c hn)
  exact ⟨a1, a2, a3, g.h⟩
theorem good_tst {room : List Int} (hr : room.length ≤ 1000) (hw : ∀ w ∈ room, 2 ≤ w ∧ w ≤ 4) : ∀ {t : Tst}, t.fits room → Good (12 * t.size) t.deep t.enc := by
  have nb : ∀ t, nth room t ≤ 4 := fun t => by
    unfold nth
    rw [List.getD_eq_getElem?_getD]
    cases e : room[t.toNat]? with
    | none => decide
    | some x => exact (hw x (List.mem_of_getElem? e)).2
  intro t
  induction t with
  | yes =>
    intro _
    exact ((goodL_cons (good_str (n := 6) (by decide +kernel)) goodL_nil).tup (n := 7 + 0)).mono (by simp [Tst.size]) (by simp [Tst.deep])
  | is t w =>
    intro h
    have := nb t
    obtain ⟨⟨h1, h2⟩, h3, h4⟩ := h
    exact ((goodL_cons (good_str (n := 6) (by decide +kernel)) (goodL_cons (good_int (i := t) (by omega)) (goodL_cons (good_int (i := w) (by omega)) goodL_nil))).tup (n := 7 + (1 + (1 + 0)))).mono (by simp [Tst.size]) (by simp [Tst.deep])
  | under t w =>
    intro h
    have := nb t
    obtain ⟨⟨h1, h2⟩, h3, h4⟩ := h
    exact ((goodL_cons (good_str (n := 6) (by decide +kernel)) (goodL_cons (good_int (i := t) (by omega)) (goodL_cons (good_int (i := w) (by omega)) goodL_nil))).tup (n := 7 + (1 + (1 + 0)))).mono (by simp [Tst.size]) (by simp [Tst.deep])
  | not a ih =>
    intro h
    have g := ih h
    exact ((goodL_cons ((good_str (n := 6) (x := "not") (by decide +kernel)).mono (Nat.le_refl _) (Nat.zero_le _)) (goodL_cons g goodL_nil)).tup (n := 7 + (12 * a.size + 0))).mono (by simp [Tst.size]; omega) (by simp [Tst.deep])
  | both a b iha ihb =>
    intro h
    have ga := (iha h.1).mono (Nat.le_refl _) (Nat.le_max_left a.deep b.deep)
    have gb := (ihb h.2).mono (Nat.le_refl _) (Nat.le_max_right a.deep b.deep)
    exact ((goodL_cons ((good_str (n := 6) (x := "both") (by decide +kernel)).mono (Nat.le_refl _) (Nat.zero_le _)) (goodL_cons ga (goodL_cons gb goodL_nil))).tup (n := 7 + (12 * a.size + (12 * b.size + 0)))).mono (by simp [Tst.size]; omega) (by simp [Tst.deep])
  | either a b iha ihb =>
    intro h
    have ga := (iha h.1).mono (Nat.le_refl _) (Nat.le_max_left a.deep b.deep)
    have gb := (ihb h.2).mono (Nat.le_refl _) (Nat.le_max_right a.deep b.deep)
    exact ((goodL_cons ((good_str (n := 6) (x := "either") (by decide +kernel)).mono (Nat.le_refl _) (Nat.zero_le _)) (goodL_cons ga (goodL_cons gb goodL_nil))).tup (n := 7 + (12 * a.size + (12 * b.size + 0)))).mono (by simp [Tst.size]; omega) (by simp [Tst.deep])
theorem good_room {room : List Int} (h : IsRoom room) : Good 4 1 (T room) :=
  (good_ints (l := room) fun x hx => by have := h.2.2 x hx; omega).tup.mono (by have := h.2.1; omega) (Nat.le_refl _)
theorem good_cls {room : List Int} {many c : Int} {cl : Cls} (hr : IsRoom room) (hm : many ≤ 6) (h : ClsOK room many c cl) : Good 600 8 cl.enc := by
  have gm := (goodL_map (n := 120) (d := 6) movD (xs := cl.movs) fun p hp => by
    have mo := h.m p hp
    have g1 := (good_tst (by have := hr.2.1; omega) hr.2.2 mo.fits).mono (n' := 108) (d' := 5) (by have := mo.size; omega) mo.deep
    have g2 := (good_int (i := p.2) (by have := mo.lo; have := mo.hi; omega)).mono (Nat.le_refl _) (Nat.zero_le 5)
    exact (goodL_cons g1 (goodL_cons g2 goodL_nil)).tup.mono (n' := 120) (d' := 6) (by omega) (Nat.le_refl _)).tup.mono (n' := 490) (d' := 7) (by have := h.ml; have : cl.movs.length * 120 ≤ 4 * 120 := Nat.mul_le_mul_right _ h.ml; omega) (Nat.le_refl _)
  have gs := (goodL_map (n := 5) (d := 1) splitD (xs := cl.splits) fun s hs => by
    obtain ⟨⟨a1, a2⟩, ⟨a3, a4⟩, a5, a6⟩ := h.s s hs
    have := hr.2.1
    exact (goodL_cons (good_int (by omega)) (goodL_cons (good_int (by omega)) (goodL_cons (good_int (by omega)) goodL_nil))).tup.mono (n' := 5) (d' := 1) (by omega) (Nat.le_refl _)).tup.mono (n' := 20) (d' := 7) (by have : cl.splits.length * 5 ≤ 2 * 5 := Nat.mul_le_mul_right _ h.sl; omega) (by omega)
  have gp := ((good_ints (l := cl.prizes) fun x hx => by have := h.p x hx; omega).tup).mono (n' := 10) (d' := 7) (by have := h.p3; omega) (by omega)
  exact (goodL_cons gm (goodL_cons gs (goodL_cons gp goodL_nil))).tup.mono (n' := 600) (d' := 8) (by omega) (Nat.le_refl _)
theorem sub_rngI {n : Int} {l : List Int} (h : l.Sublist (rngI n)) (hn : n ≤ 100) : l.length ≤ n.toNat ∧ ∀ x ∈ l, 0 ≤ x ∧ x < n := by
  refine ⟨by have := h.length_le; simpa [rngI] using this, fun x hx => ?_⟩
  have := h.subset hx
  simp only [rngI, List.mem_map, List.mem_range] at this
  obtain ⟨i, hi, rfl⟩ := this
  omega
theorem good_cup {many k : Int} {cu : Cup} (hm : many ≤ 6) (hk : k ≤ 6) (h : CupOK many k cu) : Good 100 8 cu.enc := by
  obtain ⟨o1, o2⟩ := sub_rngI h.o (by omega)
  obtain ⟨w1, w2⟩ := sub_rngI h.w (by omega)
  have go := ((good_ints (l := cu.of_) fun x hx => by have := o2 x hx; omega).tup).mono (n' := 10) (d' := 7) (by omega) (by omega)
  have gw := ((good_ints (l := cu.without) fun x hx => by have := w2 x hx; omega).tup).mono (n' := 10) (d' := 7) (by omega) (by omega)
  have gs := (goodL_map (n := 15) (d := 1) stepD (xs := cu.steps) fun s hs => by
    obtain ⟨h1, h2⟩ := h.st s hs
    have hb : strB 10 s.1 = true := by
      have : measuresL.all (strB 10) = true := by decide +kernel
      exact List.all_eq_true.1 this s.1 h1
    exact (goodL_cons (good_str hb) (goodL_cons (good_int (by omega)) goodL_nil)).tup.mono (n' := 15) (d' := 1) (by omega) (Nat.le_refl _)).tup.mono (n' := 70) (d' := 7) (by have : cu.steps.length * 15 ≤ 4 * 15 := Nat.mul_le_mul_right _ h.s4; omega) (by omega)
  exact (goodL_cons go (goodL_cons gs (goodL_cons gw goodL_nil))).tup.mono (n' := 100) (d' := 8) (by omega) (Nat.le_refl _)
theorem mem_at {α : Type} {l : List α} {x : α} (h : x ∈ l) : ∃ i : Nat, l[i]? = some x := by
  obtain ⟨i, hi, rfl⟩ := List.getElem_of_mem h
  exact ⟨i, List.getElem?_eq_getElem hi⟩
theorem good_show {s : Show} (h : ShowOK s) : Good 5000 10 s.enc := by
  have gr := (good_room h.r).mono (n' := 4) (d' := 9) (by omega) (by omega)
  have gc := (goodL_map (n := 600) (d := 8) Cls.enc (xs := s.cls) fun c hc => by
    obtain ⟨i, hi⟩ := mem_at hc
    exact good_cls h.r (by have := h.c6; omega) (h.c i c hi)).tup.mono (n' := 3700) (d' := 9) (by have : s.cls.length * 600 ≤ 6 * 600 := Nat.mul_le_mul_right _ h.c6; omega) (Nat.le_refl _)
  have gu := (goodL_map (n := 100) (d := 8) Cup.enc (xs := s.cups) fun c hc => by
    obtain ⟨i, hi⟩ := mem_at hc
    have hl := (List.getElem?_eq_some_iff.1 hi).1
    exact good_cup (by have := h.c6; omega) (by have := h.u6; omega) (h.u i c hi)).tup.mono (n' := 700) (d' := 9) (by have : s.cups.length * 100 ≤ 6 * 100 := Nat.mul_le_mul_right _ h.u6; omega) (Nat.le_refl _)
  exact (goodL_cons gr (goodL_cons gc (goodL_cons gu goodL_nil))).tup.mono (n' := 5000) (d' := 10) (by omega) (Nat.le_refl _)
end VI
set_option maxRecDepth 100000
set_option maxHeartbeats 4000000
/-! Ways. -/
namespace VI
open PySem
/-- 0:show 1:entry 2:found 3:to -/
def ir_way_b1 (f_moved : Nat) : List IS := [(.asg (.nm 3) (.call f_moved [(.var 0), (.ix (.var 2) (.neg (.cst (.int 1)))), (.ix (.var 1) (.cst (.int 2)))])),
    (.ifs (.cmp .is_ (.var 3) (.cst .none)) [(.ret (.tup [(.cst (.str "judged")), (.var 2)]))] []),
    (.ex (.mu .append 2 [(.var 3)])),
    (.ifs (.cmp .isin (.var 3) (.sl (.var 2) none (some (.neg (.cst (.int 1)))))) [(.ret (.tup [(.cst (.str "round")), (.var 2)]))] [])]
@[simp] theorem ir_way_b1_asgs {f_moved : Nat} : asgs (ir_way_b1 f_moved) = [3] := by rfl
def ir_way (f_moved : Nat) : Fn := ⟨2, 4,
   [(.asg (.nm 2) (.lst [(.ix (.var 1) (.cst (.int 1)))])),
    (.whl (.cst (.bool true)) (ir_way_b1 f_moved))], [2, 3]⟩
/-- 0:show 1:entry 2:word 3:found -/
def ir_judged_at (f_way : Nat) : Fn := ⟨2, 4,
   [(.asg (.tp [(.nm 2), (.nm 3)]) (.call f_way [(.var 0), (.var 1)])),
    (.ifs (.cmp .eq (.var 2) (.cst (.str "round"))) [(.ret (.cst .none))] []),
    (.ret (.ix (.var 3) (.neg (.cst (.int 1)))))], [2, 3]⟩
/-- 0:show 1:entries 2:c 3:k 4:entry -/
def ir_judged_in_e1 : IE := (.var 3)
def ir_judged_in_c1 (f_judged_at : Nat) : List IE := [(.cmp .eq (.call f_judged_at [(.var 0), (.var 4)]) (.var 2))]
def ir_judged_in (f_judged_at : Nat) : Fn := ⟨3, 5,
   [(.ret (.cmpr ir_judged_in_e1 (.tp [(.nm 3), (.nm 4)]) (.enum (.var 1)) (ir_judged_in_c1 f_judged_at)))], []⟩
/-- 0:show 1:state 2:c 3:k -/
def ir_members_e1 : IE := (.var 3)
def ir_members_c1 : List IE := [(.cmp .notin (.var 3) (.ix (.var 1) (.cst (.int 1))))]
def ir_members (f_judged_in : Nat) : Fn := ⟨3, 4,
   [(.ret (.cmpr ir_members_e1 (.nm 3) (.val (.call f_judged_in [(.var 0), (.ix (.var 1) (.cst (.int 0))), (.var 2)])) ir_members_c1))], []⟩
/-- 0:_law_pen_here 1:_law_room_here 2:_law_many -/
def ir_draw_facts_e1 (f__law_draw : Nat) : IE := (.call f__law_draw [(.var 0), (.var 2)])
def ir_draw_facts (f__law_draw : Nat) : Fn := ⟨2, 3,
   [(.ret (.bi .tuple (.cmpr (ir_draw_facts_e1 f__law_draw) (.nm 2) (.hid 1) [])))], []⟩
/-- 0:_law_pen_here 1:_law_show_here -/
def ir__law_entry (f__law_draw f__law_facts : Nat) : Fn := ⟨2, 2,
   [(.ret (.tup [(.call f__law_draw [(.var 0), (.ix (.lst [(.cst (.int 8)), (.cst (.int 3))]) (.call f__law_draw [(.var 0), (.cst (.int 2))]))]), (.call f__law_draw [(.var 0), (.bi .len (.ix (.var 1) (.cst (.int 1))))]), (.call f__law_facts [(.var 0), (.ix (.var 1) (.cst (.int 0)))])]))], []⟩
/-- 0:_law_show_here 1:_law_entry_here 2:_law_c 3:_law_turn 4:_law_tos 5:_law_test_here 6:_law_to -/
def ir__law_end_e1 : IE := (.var 6)
def ir__law_end_c1 (f__law_meets : Nat) : List IE := [(.call f__law_meets [(.var 5), (.ix (.var 1) (.cst (.int 2)))])]
def ir__law_end_b1 (f__law_meets : Nat) : List IS := [(.asg (.nm 4) (.cmpr ir__law_end_e1 (.tp [(.nm 5), (.nm 6)]) (.val (.ix (.ix (.ix (.var 0) (.cst (.int 1))) (.var 2)) (.cst (.int 0)))) (ir__law_end_c1 f__law_meets))),
    (.ifs (.cmp .eq (.var 4) (.lst [])) [(.ret (.var 2))] []),
    (.asg (.nm 2) (.ix (.var 4) (.cst (.int 0))))]
@[simp] theorem ir__law_end_b1_asgs {f__law_meets : Nat} : asgs (ir__law_end_b1 f__law_meets) = [4, 2] := by rfl
def ir__law_end (f__law_meets : Nat) : Fn := ⟨2, 7,
   [(.asg (.nm 2) (.ix (.var 1) (.cst (.int 1)))),
    (.for_ (.nm 3) (.rng1 (.bi .len (.ix (.var 0) (.cst (.int 1))))) (ir__law_end_b1 f__law_meets)),
    (.ret (.neg (.cst (.int 1))))], [2, 3, 4, 2]⟩
/-- 0:_law_pen_here 1:_law_show_here 2:_law_many 3:_law_entries 4:_law_ends 5:_law_k 6:_law_entry_here 7:_law_end_here 8:_law_struck 9:_law_orders 10:_law_c 11:_law_numbers -/
def ir__law_state_b1 (f__law_entry f__law_end : Nat) : List IS := [(.asg (.nm 6) (.call f__law_entry [(.var 0), (.var 1)])),
    (.asg (.nm 7) (.call f__law_end [(.var 1), (.var 6)])),
    (.ifs (.cmp .lt (.me .count (.var 4) [(.var 7)]) (.cst (.int 8))) [(.ex (.mu .append 3 [(.var 6)])),
    (.ex (.mu .append 4 [(.var 7)]))] [])]
def ir__law_state_e1 : IE := (.var 5)
def ir__law_state_c1 (f__law_draw : Nat) : List IE := [(.cmp .eq (.call f__law_draw [(.var 0), (.cst (.int 5))]) (.cst (.int 0)))]
def ir__law_state_e2 : IE := (.var 5)
def ir__law_state_c2 : List IE := [(.cmp .eq (.ix (.var 4) (.var 5)) (.var 10))]
def ir__law_state_b2 (f__law_turned f__law_draw : Nat) : List IS := [(.asg (.nm 11) (.call f__law_turned [(.var 0), (.cmpr ir__law_state_e2 (.nm 5) (.rng1 (.bi .len (.var 3))) ir__law_state_c2)])),
    (.ex (.mu .append 9 [(.ix (.lst [(.bi .tuple (.var 11)), (.bi .tuple (.var 11)), (.cst .none)]) (.call f__law_draw [(.var 0), (.cst (.int 3))]))]))]
@[simp] theorem ir__law_state_b1_asgs {f__law_entry f__law_end : Nat} : asgs (ir__law_state_b1 f__law_entry f__law_end) = [6, 7] := by rfl
@[simp] theorem ir__law_state_b2_asgs {f__law_turned f__law_draw : Nat} : asgs (ir__law_state_b2 f__law_turned f__law_draw) = [11] := by rfl
def ir__law_state (f__law_draw f__law_entry f__law_end f__law_turned : Nat) : Fn := ⟨3, 12,
   [(.asg (.nm 3) (.lst [])),
    (.asg (.nm 4) (.lst [])),
    (.for_ (.nm 5) (.rng1 (.call f__law_draw [(.var 0), (.bop .add (.var 2) (.cst (.int 1)))])) (ir__law_state_b1 f__law_entry f__law_end)),
    (.asg (.nm 8) (.cmpr ir__law_state_e1 (.nm 5) (.rng1 (.bi .len (.var 3))) (ir__law_state_c1 f__law_draw))),
    (.asg (.nm 9) (.lst [])),
    (.for_ (.nm 10) (.rng1 (.bi .len (.ix (.var 1) (.cst (.int 1))))) (ir__law_state_b2 f__law_turned f__law_draw)),
    (.ret (.tup [(.bi .tuple (.var 3)), (.bi .tuple (.var 8)), (.bi .tuple (.var 9))]))], [3, 4, 5, 6, 7, 8, 9, 10, 11]⟩
structure Ent where
  g : Int
  c : Nat
  fs : List Int
def Ent.enc (e : Ent) : PyData := .tuple [.int e.g, .int e.c, .tuple (e.fs.map .int)]
structure EntOK (s : Show) (e : Ent) : Prop where
  g0 : 0 ≤ e.g
  g8 : e.g < 8
  c : e.c < s.cls.length
  fl : e.fs.length = s.room.length
  f : ∀ (i : Nat) x w, e.fs[i]? = some x → s.room[i]? = some w → 0 ≤ x ∧ x < w
/-- the class to which one is moved -/
def Show.step (s : Show) (fs : List Int) (c : Nat) : Option Nat := match s.cls[c]? with
  | some cl => (cl.moved fs).map Int.toNat
  | none => none
theorem step_ok {s : Show} {fs : List Int} {c c' : Nat} (hs : ShowOK s) (h : s.step fs c = some c') : c' < s.cls.length ∧ c' ≠ c := by
  unfold Show.step at h
  split at h
  · rename_i cl hc
    unfold Cls.moved at h
    cases e : cl.movs.find? fun p => p.1.meets fs with
    | none => rw [e] at h; cases h
    | some p =>
      rw [e] at h
      cases h
      have mo := (hs.c c cl hc).m p (List.mem_of_find?_eq_some e)
      have := mo.lo
      have := mo.hi
      have := mo.ne
      show p.2.toNat < s.cls.length ∧ p.2.toNat ≠ c
      omega
  · cases h
theorem step_moved {s : Show} {fs : List Int} {c : Nat} {cl : Cls} (hs : ShowOK s) (hc : s.cls[c]? = some cl) : intD (cl.moved fs) = intD ((s.step fs c).map fun (n : Nat) => (n : Int)) := by
  unfold Show.step
  rw [hc]
  dsimp only
  unfold Cls.moved
  cases e : cl.movs.find? fun p => p.1.meets fs with
  | none => rfl
  | some p =>
    have mo := (hs.c c cl hc).m p (List.mem_of_find?_eq_some e)
    have := mo.lo
    show PyData.int p.2 = .int ((p.2.toNat : Nat) : Int)
    rw [Int.toNat_of_nonneg mo.lo]
def endF (st : Nat → Option Nat) : Nat → Nat → Option Nat
  | 0, _ => none
  | k + 1, c => match st c with
    | none => some c
    | some c' => endF st k c'
def wayF (st : Nat → Option Nat) : Nat → List Nat → Nat → Bool × List Nat
  | 0, init, c => (false, init ++ [c])
  | k + 1, init, c => match st c with
    | none => (true, init ++ [c])
    | some c' => if c' ∈ init ++ [c] then (false, init ++ [c, c']) else wayF st k (init ++ [c]) c'
theorem end_closed {st : Nat → Option Nat} {S : List Nat} (h : ∀ x ∈ S, ∃ y, y ∈ S ∧ st x = some y) : ∀ (k : Nat) x, x ∈ S → endF st k x = none
  | 0, _, _ => rfl
  | k + 1, x, hx => by
    obtain ⟨y, hy, e⟩ := h x hx
    unfold endF
    rw [e]
    exact end_closed h k y hy
theorem nodup_le {n : Nat} {l : List Nat} (hn : l.Nodup) (h : ∀ x ∈ l, x < n) : l.length ≤ n := by
  have := List.Nodup.length_le_of_subset hn (l₂ := List.range n) fun x hx => List.mem_range.2 (h x hx)
  simpa using this
theorem way_end {st : Nat → Option Nat} {n : Nat} (hst : ∀ c c', st c = some c' → c' < n) : ∀ (k : Nat) (init : List Nat) (c : Nat), (init ++ [c]).Nodup → (∀ x ∈ init ++ [c], x < n) → (∀ x ∈ init, ∃ y, y ∈ init ++ [c] ∧ st x = some y) → n + 1 ≤ k + (init ++ [c]).length →
    ((wayF st k init c).1 = true → ∃ l, (wayF st k init c).2 = init ++ [c] ++ l ∧ endF st (n - init.length) c = (init ++ [c] ++ l).getLast?) ∧ ((wayF st k init c).1 = false → ∀ j, endF st j c = none)
  | 0, init, c, hn, hl, _, hk => by
    have := nodup_le hn hl
    omega
  | k + 1, init, c, hn, hl, hx, hk => by
    have hle := nodup_le hn hl
    simp only [List.length_append, List.length_cons, List.length_nil] at hle hk
    unfold wayF
    cases e : st c with
    | none =>
      dsimp only
      refine ⟨fun _ => ⟨[], by simp, ?_⟩, fun h => by cases h⟩
      obtain ⟨m, hm⟩ : ∃ m, n - init.length = m + 1 := ⟨n - init.length - 1, by omega⟩
      rw [hm]
      simp [endF, e]
    | some c' =>
      dsimp only
      by_cases hc : c' ∈ init ++ [c]
      · rw [if_pos hc]
        have cl : ∀ x ∈ init ++ [c], ∃ y, y ∈ init ++ [c] ∧ st x = some y := fun x hx2 => by
          rcases List.mem_append.1 hx2 with h | h
          · exact hx x h
          · simp at h
            subst h
            exact ⟨c', hc, e⟩
        exact ⟨fun h => (by cases h), fun _ j => end_closed cl j c (by simp)⟩
      · rw [if_neg hc]
        have ih := way_end hst k (init ++ [c]) c' (by
          rw [List.nodup_append]
          exact ⟨hn, by simp, fun a ha b hb => by simp at hb; subst hb; exact fun z => hc (z ▸ ha)⟩) (fun x hx2 => by
          rcases List.mem_append.1 hx2 with h | h
          · exact hl x h
          · simp at h; subst h; exact hst c x e) (fun x hx2 => by
          rcases List.mem_append.1 hx2 with h | h
          · obtain ⟨y, hy, ey⟩ := hx x h
            exact ⟨y, List.mem_append_left _ hy, ey⟩
          · simp at h; subst h; exact ⟨c', by simp, e⟩) (by simp; omega)
        refine ⟨fun h => ?_, fun h j => ?_⟩
        · obtain ⟨l, h1, h2⟩ := ih.1 h
          refine ⟨c' :: l, by rw [h1]; simp, ?_⟩
          have hn2 : (init ++ [c] ++ [c']).length ≤ n := nodup_le (by
            rw [List.nodup_append]
            exact ⟨hn, by simp, fun a ha b hb => by simp at hb; subst hb; exact fun z => hc (z ▸ ha)⟩) (fun x hx2 => by
            rcases List.mem_append.1 hx2 with h | h
            · exact hl x h
            · simp at h; subst h; exact hst c x e)
          simp at hn2
          obtain ⟨m, hm⟩ : ∃ m, n - init.length = m + 1 := ⟨n - init.length - 1, by omega⟩
          rw [hm]
          unfold endF
          rw [e]
          dsimp only
          have hm2 : n - (init ++ [c]).length = m := by simp; omega
          rw [hm2] at h2
          rw [h2]
          simp
        · cases j with
          | zero => rfl
          | succ j => unfold endF; rw [e]; exact ih.2 h j
theorem at_last {xs : List PyData} {x : PyData} : ixV (.list (xs ++ [x])) (.int (-1)) = some x := by
  show L2.atI (xs ++ [x]) (-1) = some x
  unfold L2.atI L2.ixN
  rw [if_neg (by decide), if_pos (by rw [List.length_append, List.length_singleton]; omega)]
  show (xs ++ [x])[((-1 : Int) + ((xs ++ [x]).length : Nat)).toNat]? = some x
  have : ((-1 : Int) + ((xs ++ [x]).length : Nat)).toNat = xs.length := by rw [List.length_append, List.length_singleton]; omega
  rw [this]
  simp
theorem cut_last {xs : List PyData} {x : PyData} : cutD (xs ++ [x]) none (some (-1)) = xs := by
  unfold cutD
  have e : HT.sIx (xs ++ [x]).length (xs ++ [x]).length (some (-1)) = xs.length := by
    unfold HT.sIx
    simp
    omega
  rw [HT.sIx_none, e]
  simp
theorem in_intsL (l : List Int) (p : Int) : pyIn (.int p) (.list (l.map .int)) = some (l.contains p) := in_ints l p
def natsD (l : List Nat) : List PyData := l.map fun (n : Nat) => PyData.int n
theorem in_nats (l : List Nat) (p : Nat) : pyIn (.int p) (.list (natsD l)) = some (decide (p ∈ l)) := by
  have := in_intsL (l.map fun (n : Nat) => (n : Int)) p
  rw [List.map_map] at this
  show pyIn (.int p) (.list (l.map (PyData.int ∘ fun (n : Nat) => (n : Int)))) = _
  rw [this]
  congr 1
  by_cases h : p ∈ l
  · simp [h]
    exact ⟨p, h, rfl⟩
  · simp [h]
    intro x hx hxp
    have : x = p := by omega
    exact h (this ▸ hx)
def wayD (r : Bool × List Nat) : PyData := .tuple [.str (if r.1 then "judged" else "round"), .list (natsD r.2)]
def WayC (f : Nat) (C : CallF) : Prop := ∀ (s : Show) (e : Ent), ShowOK s → EntOK s e → C f [(s.enc, false), (e.enc, false)] = some (wayD (wayF (s.step e.fs) (s.cls.length + 1) [] e.c), false, [(s.enc, false), (e.enc, false)])
section
variable {Γ : List Fn} {f n f_draw f_moved f_way f_judged_at f_judged_in f_meets f_facts f_entry f_end f_turned : Nat} {C : CallF}
theorem natsD_snoc (l : List Nat) (c : Nat) : natsD (l ++ [c]) = natsD l ++ [.int c] := by simp [natsD]
theorem way_loop {s : Show} {e : Ent} (hs : ShowOK s) (he : EntOK s e) (hM : MovedC f_moved C) : ∀ (k : Nat) (init : List Nat) (c : Nat) (s3 : Slot) (fuel : Nat), (init ++ [c]).Nodup → (∀ x ∈ init ++ [c], x < s.cls.length) → s.cls.length + 1 ≤ k + (init ++ [c]).length → k ≤ fuel →
    ∃ env', whlL (tst (.cst (.bool true)) (ev C (.cst (.bool true)))) (exs C (ir_way_b1 f_moved)) fuel [some (s.enc, .p), some (e.enc, .p), some (.list (natsD (init ++ [c])), .o), s3] = some (.rt (wayD (wayF (s.step e.fs) k init c)) false, env') ∧ ∃ s2 s3, env' = [some (s.enc, .p), some (e.enc, .p), s2, s3]
  | 0, init, c, s3, fuel, hn, hl, hk, _ => by
    have := nodup_le hn hl
    omega
  | k + 1, init, c, s3, 0, hn, hl, hk, hf => by omega
  | k + 1, init, c, s3, fuel + 1, hn, hl, hk, hf => by
    have hle := nodup_le hn hl
    have hc : c < s.cls.length := hl c (by simp)
    have e1 := hM s c _ e.fs hs (List.getElem?_eq_getElem hc) he.fl
    rw [step_moved hs (List.getElem?_eq_getElem hc)] at e1
    have e2 : ixV e.enc (.int 2) = some (T e.fs) := at2
    have e3 : ixV (.list (natsD (init ++ [c]))) (.int (-1)) = some (.int c) := by rw [natsD_snoc]; exact at_last
    have c0 : ∀ env, tst (.cst (.bool true)) (ev C (.cst (.bool true))) env = some (true, env) := fun env => by simp [runFn, exs, ex, ev, evs, evArgs, evO, evAnd, evOr, evIt, entry, tst, truE, rdOf, tkOf, fstOf, lateOf, quiet, quiets, quietO, pers, look, keepV, readV, takeV, copV, bopV, biV, bi2V, truV, fin, okFin, finals, callNow, argsNow, argNow, lent, back, hidOf, hid2Of, VI.bind, VI.binds, tgs, tgss, asgI, asgs, wipeE, unset, keepP, items]
    have hsz : (natsD (init ++ [c])).length < sizeLine := sizeLine_big (n := (natsD (init ++ [c])).length + 1) (by have := hs.c6; simp only [natsD, List.length_map]; omega)
    unfold wayF
    cases hst : s.step e.fs c with
    | none =>
      rw [hst] at e1
      dsimp only
      have b0 : exs C (ir_way_b1 f_moved) [some (s.enc, .p), some (e.enc, .p), some (.list (natsD (init ++ [c])), .o), s3] = some (.rt (wayD (true, init ++ [c])) false, [some (s.enc, .p), some (e.enc, .p), some (.list (natsD (init ++ [c])), .p), some (.none, .p)]) := by
        generalize hF : natsD (init ++ [c]) = F at e3 hsz ⊢
        simp [ir_way_b1, runFn, exs, ex, ev, evs, evArgs, evO, evAnd, evOr, evIt, entry, tst, truE, rdOf, tkOf, fstOf, lateOf, quiet, quiets, quietO, pers, look, keepV, readV, takeV, copV, bopV, biV, bi2V, truV, fin, okFin, finals, callNow, argsNow, argNow, lent, back, hidOf, hid2Of, VI.bind, VI.binds, tgs, tgss, asgI, asgs, wipeE, unset, keepP, items, e1, e2, e3, intD, wayD, hF]
      exact ⟨[some (s.enc, .p), some (e.enc, .p), some (.list (natsD (init ++ [c])), .p), some (.none, .p)], by simp only [whlL, c0, b0], _, _, rfl⟩
    | some c' =>
      rw [hst] at e1
      dsimp only
      have e4 : cutD (natsD (init ++ [c]) ++ [.int c']) none (some (-1)) = natsD (init ++ [c]) := cut_last
      have e5 := in_nats (init ++ [c]) c'
      by_cases hc' : c' ∈ init ++ [c]
      · rw [if_pos hc']
        have b0 : exs C (ir_way_b1 f_moved) [some (s.enc, .p), some (e.enc, .p), some (.list (natsD (init ++ [c])), .o), s3] = some (.rt (wayD (false, init ++ [c, c'])) false, [some (s.enc, .p), some (e.enc, .p), some (.list (natsD (init ++ [c]) ++ [.int c']), .p), some (.int c', .p)]) := by
          rw [decide_eq_true hc'] at e5
          have hF2 : natsD (init ++ [c, c']) = natsD (init ++ [c]) ++ [.int c'] := by simp [natsD]
          simp only [wayD, hF2]
          generalize natsD (init ++ [c]) = F at e3 e4 e5 hsz ⊢
          simp [ir_way_b1, runFn, exs, ex, ev, evs, evArgs, evO, evAnd, evOr, evIt, entry, tst, truE, rdOf, tkOf, fstOf, lateOf, quiet, quiets, quietO, pers, look, keepV, readV, takeV, copV, bopV, biV, bi2V, truV, fin, okFin, finals, callNow, argsNow, argNow, lent, back, hidOf, hid2Of, VI.bind, VI.binds, tgs, tgss, asgI, asgs, wipeE, unset, keepP, items, e1, e2, e3, intD, muV, appendV, hsz, slV, e4, e5]
        exact ⟨[some (s.enc, .p), some (e.enc, .p), some (.list (natsD (init ++ [c]) ++ [.int c']), .p), some (.int c', .p)], by simp only [whlL, c0, b0], _, _, rfl⟩
      · rw [if_neg hc']
        have b0 : exs C (ir_way_b1 f_moved) [some (s.enc, .p), some (e.enc, .p), some (.list (natsD (init ++ [c])), .o), s3] = some (.nx, [some (s.enc, .p), some (e.enc, .p), some (.list (natsD (init ++ [c] ++ [c'])), .o), some (.int c', .p)]) := by
          rw [decide_eq_false hc'] at e5
          rw [natsD_snoc (init ++ [c]) c']
          generalize natsD (init ++ [c]) = F at e3 e4 e5 hsz ⊢
          simp [ir_way_b1, runFn, exs, ex, ev, evs, evArgs, evO, evAnd, evOr, evIt, entry, tst, truE, rdOf, tkOf, fstOf, lateOf, quiet, quiets, quietO, pers, look, keepV, readV, takeV, copV, bopV, biV, bi2V, truV, fin, okFin, finals, callNow, argsNow, argNow, lent, back, hidOf, hid2Of, VI.bind, VI.binds, tgs, tgss, asgI, asgs, wipeE, unset, keepP, items, e1, e2, e3, intD, muV, appendV, hsz, slV, e4, e5]
        obtain ⟨env', h1, h2⟩ := way_loop hs he hM k (init ++ [c]) c' (some (.int c', .p)) fuel (by
          rw [List.nodup_append]
          exact ⟨hn, by simp, fun a ha b hb => by simp at hb; subst hb; exact fun z => hc' (z ▸ ha)⟩) (fun x hx2 => by
          rcases List.mem_append.1 hx2 with h | h
          · exact hl x h
          · simp at h; subst h; exact (step_ok hs hst).1) (by simp at hk ⊢; omega) (by omega)
        refine ⟨env', ?_, h2⟩
        simp only [whlL, c0, b0]
        exact h1
theorem way_lev (hf : Γ[f]? = some (ir_way f_moved)) (hM : Lev Γ n (MovedC f_moved)) : Lev Γ (n + 1) (WayC f) := by
  refine lev_of fun k hk s e hs he => ?_
  rw [call_at hf]
  obtain ⟨env', h1, s2, s3, rfl⟩ := way_loop (C := call Γ k) hs he (hM k hk) (s.cls.length + 1) [] e.c none WFUEL (by simp) (by simp; exact he.c) (by simp) (by have := hs.c6; unfold WFUEL; omega)
  have e1 : ixV e.enc (.int 1) = some (.int e.c) := at1
  simp [natsD] at h1
  rw [show ev (call Γ k) (.cst (.bool true)) = fun x => some (.bool true, false, x) from by funext x; simp only [ev]] at h1
  simp [ir_way, runFn, exs, ex, ev, evs, evArgs, evO, evAnd, evOr, evIt, entry, tst, truE, rdOf, tkOf, fstOf, lateOf, quiet, quiets, quietO, pers, look, keepV, readV, takeV, copV, bopV, biV, bi2V, truV, fin, okFin, finals, callNow, argsNow, argNow, lent, back, hidOf, hid2Of, VI.bind, VI.binds, tgs, tgss, asgI, asgs, wipeE, unset, keepP, items, e1, h1]
/-- where an entry is judged -/
def Show.ends (s : Show) (e : Ent) : Option Nat := endF (s.step e.fs) s.cls.length e.c
theorem way_ends {s : Show} {e : Ent} (hs : ShowOK s) (he : EntOK s e) : ((wayF (s.step e.fs) (s.cls.length + 1) [] e.c).1 = true → ∃ l x, (wayF (s.step e.fs) (s.cls.length + 1) [] e.c).2 = l ++ [x] ∧ s.ends e = some x) ∧
    ((wayF (s.step e.fs) (s.cls.length + 1) [] e.c).1 = false → s.ends e = none) := by
  obtain ⟨h1, h2⟩ := way_end (st := s.step e.fs) (n := s.cls.length) (fun c c' h => (step_ok hs h).1) (s.cls.length + 1) [] e.c (by simp) (by simp; exact he.c) (by simp) (by simp)
  refine ⟨fun h => ?_, fun h => h2 h _⟩
  obtain ⟨l, a, b⟩ := h1 h
  simp only [List.nil_append, List.length_nil, Nat.sub_zero] at a b
  have hne : [e.c] ++ l ≠ [] := by simp
  refine ⟨([e.c] ++ l).dropLast, ([e.c] ++ l).getLast hne, by rw [List.dropLast_concat_getLast]; exact a, ?_⟩
  unfold Show.ends
  rw [b, List.getLast?_eq_some_getLast hne]
def natD : Option Nat → PyData
  | some n => .int n
  | none => .none
def JudgedAtC (f : Nat) (C : CallF) : Prop := ∀ (s : Show) (e : Ent), ShowOK s → EntOK s e → C f [(s.enc, false), (e.enc, false)] = some (natD (s.ends e), false, [(s.enc, false), (e.enc, false)])
theorem judgedAt_lev (hf : Γ[f]? = some (ir_judged_at f_way)) (hW : Lev Γ n (WayC f_way)) : Lev Γ (n + 1) (JudgedAtC f) := by
  refine lev_of fun k hk s e hs he => ?_
  rw [call_at hf]
  have e1 := hW k hk s e hs he
  obtain ⟨w1, w2⟩ := way_ends hs he
  generalize hw : wayF (s.step e.fs) (s.cls.length + 1) [] e.c = w at e1 w1 w2
  obtain ⟨b, l⟩ := w
  cases b with
  | true =>
    obtain ⟨l', x, h1, h2⟩ := w1 rfl
    dsimp only at h1
    subst h1
    have e3 : ixV (.list (natsD (l' ++ [x]))) (.int (-1)) = some (.int x) := by rw [natsD_snoc]; exact at_last
    rw [h2]
    simp only [wayD] at e1
    generalize natsD (l' ++ [x]) = F at e1 e3
    simp [ir_judged_at, runFn, exs, ex, ev, evs, evArgs, evO, evAnd, evOr, evIt, entry, tst, truE, rdOf, tkOf, fstOf, lateOf, quiet, quiets, quietO, pers, look, keepV, readV, takeV, copV, bopV, biV, bi2V, truV, fin, okFin, finals, callNow, argsNow, argNow, lent, back, hidOf, hid2Of, VI.bind, VI.binds, tgs, tgss, asgI, asgs, wipeE, unset, keepP, items, e1, e3, pyEqI, pyEqS, pyEqB, pyEqSI, pyEqIS, pyEqNI, pyEqIN, pyEqNN, pyEqNil, natD]
  | false =>
    rw [w2 rfl]
    simp only [wayD] at e1
    generalize natsD l = F at e1
    simp [ir_judged_at, runFn, exs, ex, ev, evs, evArgs, evO, evAnd, evOr, evIt, entry, tst, truE, rdOf, tkOf, fstOf, lateOf, quiet, quiets, quietO, pers, look, keepV, readV, takeV, copV, bopV, biV, bi2V, truV, fin, okFin, finals, callNow, argsNow, argNow, lent, back, hidOf, hid2Of, VI.bind, VI.binds, tgs, tgss, asgI, asgs, wipeE, unset, keepP, items, e1, pyEqI, pyEqS, pyEqB, pyEqSI, pyEqIS, pyEqNI, pyEqIN, pyEqNN, pyEqNil, natD]
/-- those that are judged in a class -/
def Show.judged (s : Show) (es : List Ent) (c : Nat) : List Nat := (es.zipIdx.filter fun p => decide (s.ends p.1 = some c)).map (·.2)
def JudgedInC (f : Nat) (C : CallF) : Prop := ∀ (s : Show) (es : List Ent) (c : Nat), ShowOK s → (∀ e ∈ es, EntOK s e) → es.length ≤ 1000 →
  C f [(s.enc, false), (.tuple (es.map Ent.enc), false), (.int c, false)] = some (.list (natsD (s.judged es c)), true, [(s.enc, false), (.tuple (es.map Ent.enc), false), (.int c, false)])
theorem enumD_enc {α : Type} (enc : α → PyData) (ys : List α) : enumD (ys.map enc) = ys.zipIdx.map fun p => .tuple [.int (p.2 : Nat), enc p.1] := by
  unfold enumD
  rw [List.mapIdx_eq_zipIdx_map, List.zipIdx_map, List.map_map]
  rfl
theorem eq_natD (o : Option Nat) (c : Nat) : pyEq (natD o) (.int c) = some (decide (o = some c)) := by
  cases o with
  | none => rfl
  | some x =>
    show pyEq (.int x) (.int c) = _
    rw [pyEqI]
    congr 1
    by_cases h : x = c
    · simp [h]
    · have : ¬ (x : Int) = c := by omega
      simp [h, this]
theorem judgedIn_lev (hf : Γ[f]? = some (ir_judged_in f_judged_at)) (hJ : Lev Γ n (JudgedAtC f_judged_at)) : Lev Γ (n + 1) (JudgedInC f) := by
  refine lev_of fun k hk s es c hs he hl => ?_
  rw [call_at hf]
  have hc := compL_pure (t := .tp [.nm 3, .nm 4]) (own := [3, 4]) (cs := evCs (call Γ k) (ir_judged_in_c1 f_judged_at)) (e := ev (call Γ k) ir_judged_in_e1) (fun p : Ent × Nat => .tuple [.int (p.2 : Nat), p.1.enc]) (fun p => decide (s.ends p.1 = some c)) (fun p => .int (p.2 : Nat)) (ys := es.zipIdx) (acc := [])
    (env := [some (s.enc, .p), some (.tuple (es.map Ent.enc), .p), some (.int c, .p), none, none]) (by
      intro p hp
      have hm : p.1 ∈ es := List.fst_mem_of_mem_zipIdx hp
      have e1 := hJ k hk s p.1 hs (he _ hm)
      have e2 := eq_natD (s.ends p.1) c
      refine ⟨_, [some (s.enc, .p), some (.tuple (es.map Ent.enc), .p), some (.int c, .p), some (.int (p.2 : Nat), .p), some (p.1.enc, .p)], rfl, ?_, fun _ => rfl, fun _ => ⟨false, [some (s.enc, .p), some (.tuple (es.map Ent.enc), .p), some (.int c, .p), some (.int (p.2 : Nat), .p), some (p.1.enc, .p)], ?_, rfl⟩⟩
      · cases h : decide (s.ends p.1 = some c) <;> rw [h] at e2 <;> simp [ir_judged_in_c1, evCs, runFn, exs, ex, ev, evs, evArgs, evO, evAnd, evOr, evIt, entry, tst, truE, rdOf, tkOf, fstOf, lateOf, quiet, quiets, quietO, pers, look, keepV, readV, takeV, copV, bopV, biV, bi2V, truV, fin, okFin, finals, callNow, argsNow, argNow, lent, back, hidOf, hid2Of, VI.bind, VI.binds, tgs, tgss, asgI, asgs, wipeE, unset, keepP, items, e1, e2]
      · simp [ir_judged_in_e1, runFn, exs, ex, ev, evs, evArgs, evO, evAnd, evOr, evIt, entry, tst, truE, rdOf, tkOf, fstOf, lateOf, quiet, quiets, quietO, pers, look, keepV, readV, takeV, copV, bopV, biV, bi2V, truV, fin, okFin, finals, callNow, argsNow, argNow, lent, back, hidOf, hid2Of, VI.bind, VI.binds, tgs, tgss, asgI, asgs, wipeE, unset, keepP, items]) (sizeLine_big (by simp; omega))
  have e3 : natsD (s.judged es c) = (es.zipIdx.filter fun p => decide (s.ends p.1 = some c)).map fun p => .int (p.2 : Nat) := by
    simp only [natsD, Show.judged, List.map_map]
    rfl
  rw [e3]
  generalize (es.zipIdx.filter fun p => decide (s.ends p.1 = some c)) = L at hc
  simp at hc
  simp [ir_judged_in, runFn, exs, ex, ev, evs, evArgs, evO, evAnd, evOr, evIt, entry, tst, truE, rdOf, tkOf, fstOf, lateOf, quiet, quiets, quietO, pers, look, keepV, readV, takeV, copV, bopV, biV, bi2V, truV, fin, okFin, finals, callNow, argsNow, argNow, lent, back, hidOf, hid2Of, VI.bind, VI.binds, tgs, tgss, asgI, asgs, wipeE, unset, keepP, items, enumD_enc, hc]
end
end VI
set_option maxRecDepth 100000
set_option maxHeartbeats 4000000
/-! States. -/
namespace VI
open PySem
structure St where
  es : List Ent
  struck : List Nat
  orders : List (Option (List Nat))
def ordD : Option (List Nat) → PyData
  | none => .none
  | some l => .tuple (natsD l)
def St.enc (s : St) : PyData := .tuple [.tuple (s.es.map Ent.enc), .tuple (natsD s.struck), .tuple (s.orders.map ordD)]
structure StOK (s : Show) (st : St) : Prop where
  e : ∀ e ∈ st.es, EntOK s e
  el : st.es.length ≤ 24
  j8 : ∀ c, (s.judged st.es c).length ≤ 8
  k : st.struck.Sublist (List.range st.es.length)
  ol : st.orders.length = s.cls.length
  o : ∀ (c : Nat) l, st.orders[c]? = some (some l) → l.Perm (s.judged st.es c)
theorem in_natsT (l : List Nat) (p : Nat) : pyIn (.int p) (.tuple (natsD l)) = some (decide (p ∈ l)) := in_nats l p
/-- the members of a class -/
def Show.members (s : Show) (st : St) (c : Nat) : List Nat := (s.judged st.es c).filter fun k => !decide (k ∈ st.struck)
def MembersC (f : Nat) (C : CallF) : Prop := ∀ (s : Show) (st : St) (c : Nat), ShowOK s → StOK s st → C f [(s.enc, false), (st.enc, false), (.int c, false)] = some (.list (natsD (s.members st c)), true, [(s.enc, false), (st.enc, false), (.int c, false)])
section
variable {Γ : List Fn} {f n f_draw f_moved f_way f_judged_at f_judged_in f_meets f_facts f_entry f_end f_turned : Nat} {C : CallF}
theorem members_lev (hf : Γ[f]? = some (ir_members f_judged_in)) (hJ : Lev Γ n (JudgedInC f_judged_in)) : Lev Γ (n + 1) (MembersC f) := by
  refine lev_of fun k hk s st c hs hst => ?_
  rw [call_at hf]
  have e1 := hJ k hk s st.es c hs hst.e (by have := hst.el; omega)
  have e2 : ixV st.enc (.int 0) = some (.tuple (st.es.map Ent.enc)) := at0
  have e3 : ixV st.enc (.int 1) = some (.tuple (natsD st.struck)) := at1
  have hc := compL_pure (t := .nm 3) (own := [3]) (cs := evCs (call Γ k) ir_members_c1) (e := ev (call Γ k) ir_members_e1) (fun (p : Nat) => PyData.int p) (fun p => !decide (p ∈ st.struck)) (fun (p : Nat) => PyData.int p) (ys := s.judged st.es c) (acc := [])
    (env := [some (s.enc, .p), some (st.enc, .p), some (.int c, .p), none]) (by
      intro p hp
      have e4 := in_natsT st.struck p
      refine ⟨_, [some (s.enc, .p), some (st.enc, .p), some (.int c, .p), some (.int p, .p)], rfl, ?_, fun _ => rfl, fun _ => ⟨false, [some (s.enc, .p), some (st.enc, .p), some (.int c, .p), some (.int p, .p)], ?_, rfl⟩⟩
      · cases h : decide (p ∈ st.struck) <;> rw [h] at e4 <;> simp [ir_members_c1, evCs, runFn, exs, ex, ev, evs, evArgs, evO, evAnd, evOr, evIt, entry, tst, truE, rdOf, tkOf, fstOf, lateOf, quiet, quiets, quietO, pers, look, keepV, readV, takeV, copV, bopV, biV, bi2V, truV, fin, okFin, finals, callNow, argsNow, argNow, lent, back, hidOf, hid2Of, VI.bind, VI.binds, tgs, tgss, asgI, asgs, wipeE, unset, keepP, items, e3, e4]
      · simp [ir_members_e1, runFn, exs, ex, ev, evs, evArgs, evO, evAnd, evOr, evIt, entry, tst, truE, rdOf, tkOf, fstOf, lateOf, quiet, quiets, quietO, pers, look, keepV, readV, takeV, copV, bopV, biV, bi2V, truV, fin, okFin, finals, callNow, argsNow, argNow, lent, back, hidOf, hid2Of, VI.bind, VI.binds, tgs, tgss, asgI, asgs, wipeE, unset, keepP, items]) (sizeLine_big (by have := hst.j8 c; simp; omega))
  unfold Show.members
  simp only [natsD] at e1 ⊢
  generalize ((s.judged st.es c).filter fun k => !decide (k ∈ st.struck)) = L at hc ⊢
  simp at hc
  simp [ir_members, runFn, exs, ex, ev, evs, evArgs, evO, evAnd, evOr, evIt, entry, tst, truE, rdOf, tkOf, fstOf, lateOf, quiet, quiets, quietO, pers, look, keepV, readV, takeV, copV, bopV, biV, bi2V, truV, fin, okFin, finals, callNow, argsNow, argNow, lent, back, hidOf, hid2Of, VI.bind, VI.binds, tgs, tgss, asgI, asgs, wipeE, unset, keepP, items, e1, e2, hc]
/-! ### entries that are drawn -/
def FactsC (f : Nat) (C : CallF) : Prop := ∀ d i room, PenOK d i → IsRoom room → i + 3 ≤ 2147483648 → ∃ (fs : List Int) (d' : PyData), C f [(d, true), (T room, false)] = some (T fs, false, [(d', true), (T room, false)]) ∧ fs.length = room.length ∧
  (∀ (i : Nat) x w, fs[i]? = some x → room[i]? = some w → 0 ≤ x ∧ x < w) ∧ PenOK d' (i + 3)
theorem facts_lev (hf : Γ[f]? = some (ir_draw_facts f_draw)) (hD : Lev Γ n (DrawC f_draw)) : Lev Γ (n + 1) (FactsC f) := by
  refine lev_of fun k hk d i room hd hr hi => ?_
  rw [call_at hf]
  have hrl := hr.2.1
  obtain ⟨fs, env', b1, b2, b3, d2, rfl, b5⟩ := compL_draw (C := call Γ k) (t := .nm 2) (own := [2]) (e := ev (call Γ k) (ir_draw_facts_e1 f_draw)) PyData.int PyData.int (fun (w : Int) (r : Int) => 0 ≤ r ∧ r < w) (fun j env => ∃ d', env = [some (d', .b), some (T room, .p), none] ∧ PenOK d' (i + j)) (ys := room) (acc := []) (j := 0)
    (env := [some (d, .b), some (T room, .p), none]) ⟨d, rfl, hd⟩ (by
      rintro j y env hy ⟨d2, rfl, hp⟩
      obtain ⟨hj, hjy⟩ := List.getElem?_eq_some_iff.1 hy
      have hw := hr.2.2 y (by rw [← hjy]; exact List.getElem_mem hj)
      obtain ⟨r2, d3, c1, c2, c3, c4⟩ := hD k hk d2 _ y hp (by omega) (by omega) (by omega)
      refine ⟨_, r2, false, [some (d3, .b), some (T room, .p), some (.int y, .p)], rfl, ?_, ⟨c2, c3⟩, d3, rfl, c4.le (by omega)⟩
      simp [ir_draw_facts_e1, runFn, exs, ex, ev, evs, evArgs, evO, evAnd, evOr, evIt, entry, tst, truE, rdOf, tkOf, fstOf, lateOf, quiet, quiets, quietO, pers, look, keepV, readV, takeV, copV, bopV, biV, bi2V, truV, fin, okFin, finals, callNow, argsNow, argNow, lent, back, hidOf, hid2Of, VI.bind, VI.binds, tgs, tgss, asgI, asgs, wipeE, unset, keepP, items, c1]) (sizeLine_big (by simp; omega))
  refine ⟨fs, d2, ?_, b2, fun i x w h1 h2 => b3 i w x h2 h1, b5.le (by omega)⟩
  simp at b1
  simp [ir_draw_facts, runFn, exs, ex, ev, evs, evArgs, evO, evAnd, evOr, evIt, entry, tst, truE, rdOf, tkOf, fstOf, lateOf, quiet, quiets, quietO, pers, look, keepV, readV, takeV, copV, bopV, biV, bi2V, truV, fin, okFin, finals, callNow, argsNow, argNow, lent, back, hidOf, hid2Of, VI.bind, VI.binds, tgs, tgss, asgI, asgs, wipeE, unset, keepP, items, b1]
def EntryC (f : Nat) (C : CallF) : Prop := ∀ d i (s : Show), PenOK d i → ShowOK s → i + 6 ≤ 2147483648 → ∃ (e : Ent) (d' : PyData), C f [(d, true), (s.enc, false)] = some (e.enc, false, [(d', true), (s.enc, false)]) ∧ EntOK s e ∧ PenOK d' (i + 6)
theorem entry_lev (hf : Γ[f]? = some (ir__law_entry f_draw f_facts)) (hD : Lev Γ n (DrawC f_draw)) (hF : Lev Γ n (FactsC f_facts)) : Lev Γ (n + 1) (EntryC f) := by
  refine lev_of fun k hk d i s hd hs hi => ?_
  rw [call_at hf]
  have hD := hD k hk
  have hc1 := hs.c1
  have hc6 := hs.c6
  obtain ⟨r, d1, a1, a2, a3, a4⟩ := hD d i 2 hd (by omega) (by decide) (by decide)
  obtain ⟨x, hm, hx⟩ := pick (l := [8, 3]) a2 (by simpa using a3)
  have hx2 : 3 ≤ x ∧ x ≤ 8 := by simp at hm; omega
  obtain ⟨g, d2, b1, b2, b3, b4⟩ := hD d1 _ x a4 (by omega) (by omega) (by omega)
  obtain ⟨c, d3, c1, c2, c3, c4⟩ := hD d2 _ s.cls.length b4 (by omega) (by omega) (by omega)
  obtain ⟨fs, d4, g1, g2, g3, g4⟩ := hF k hk d3 _ s.room c4 hs.r (by omega)
  obtain ⟨m, rfl⟩ : ∃ m : Nat, c = m := ⟨c.toNat, by omega⟩
  refine ⟨⟨g, m, fs⟩, d4, ?_, ⟨b2, by dsimp only; omega, by dsimp only; omega, g2, g3⟩, g4.le (by omega)⟩
  have e0 : ixV s.enc (.int 0) = some (T s.room) := at0
  have e1 : ixV s.enc (.int 1) = some (.tuple (s.cls.map Cls.enc)) := at1
  simp at hx
  simp [ir__law_entry, runFn, exs, ex, ev, evs, evArgs, evO, evAnd, evOr, evIt, entry, tst, truE, rdOf, tkOf, fstOf, lateOf, quiet, quiets, quietO, pers, look, keepV, readV, takeV, copV, bopV, biV, bi2V, truV, fin, okFin, finals, callNow, argsNow, argNow, lent, back, hidOf, hid2Of, VI.bind, VI.binds, tgs, tgss, asgI, asgs, wipeE, unset, keepP, items, a1, hx, b1, e0, e1, c1, g1, Ent.enc]
/-! ### where an entry ends, by the law -/
def endI : Option Nat → Int
  | some x => x
  | none => -1
def EndC (f : Nat) (C : CallF) : Prop := ∀ (s : Show) (e : Ent), ShowOK s → EntOK s e → C f [(s.enc, false), (e.enc, false)] = some (.int (endI (s.ends e)), false, [(s.enc, false), (e.enc, false)])
theorem end_turn {s : Show} {e : Ent} {c : Nat} {s3 s4 : Slot} (hs : ShowOK s) (he : EntOK s e) (hc : c < s.cls.length) (hL : MeetsC f_meets 5 C) : ∃ s4',
    exs C (ir__law_end_b1 f_meets) [some (s.enc, .p), some (e.enc, .p), some (.int c, .p), s3, s4, none, none] = some (match s.step e.fs c with
      | none => (.rt (.int c) false, [some (s.enc, .p), some (e.enc, .p), some (.int c, .p), s3, s4', none, none])
      | some c' => (.nx, [some (s.enc, .p), some (e.enc, .p), some (.int c', .p), s3, s4', none, none])) := by
  have ok := hs.c c _ (List.getElem?_eq_getElem hc)
  have e1 : ixV s.enc (.int 1) = some (.tuple (s.cls.map Cls.enc)) := at1
  have e2 := cls_at (List.getElem?_eq_getElem hc)
  generalize hcl : s.cls[c] = cl at ok e2
  have e3 : ixV cl.enc (.int 0) = some (.tuple (cl.movs.map movD)) := at0
  have e4 : ixV e.enc (.int 2) = some (T e.fs) := at2
  have hcc := compL_pure (t := .tp [.nm 5, .nm 6]) (own := [5, 6]) (cs := evCs C (ir__law_end_c1 f_meets)) (e := ev C ir__law_end_e1) movD (fun p : Tst × Int => p.1.meets e.fs) (fun p => .int p.2) (ys := cl.movs) (acc := []) (env := [some (s.enc, .p), some (e.enc, .p), some (.int c, .p), s3, s4, none, none]) (by
    intro y hy
    have mo := ok.m y hy
    have m1 := hL y.1 e.fs mo.deep (by rw [he.fl]; exact mo.fits.inl)
    refine ⟨_, [some (s.enc, .p), some (e.enc, .p), some (.int c, .p), s3, s4, some (y.1.enc, .p), some (.int y.2, .p)], rfl, ?_, fun _ => rfl, fun _ => ⟨false, [some (s.enc, .p), some (e.enc, .p), some (.int c, .p), s3, s4, some (y.1.enc, .p), some (.int y.2, .p)], ?_, rfl⟩⟩
    · cases h : y.1.meets e.fs <;> rw [h] at m1 <;> simp [ir__law_end_c1, evCs, runFn, exs, ex, ev, evs, evArgs, evO, evAnd, evOr, evIt, entry, tst, truE, rdOf, tkOf, fstOf, lateOf, quiet, quiets, quietO, pers, look, keepV, readV, takeV, copV, bopV, biV, bi2V, truV, fin, okFin, finals, callNow, argsNow, argNow, lent, back, hidOf, hid2Of, VI.bind, VI.binds, tgs, tgss, asgI, asgs, wipeE, unset, keepP, items, m1, e4]
    · simp [ir__law_end_e1, runFn, exs, ex, ev, evs, evArgs, evO, evAnd, evOr, evIt, entry, tst, truE, rdOf, tkOf, fstOf, lateOf, quiet, quiets, quietO, pers, look, keepV, readV, takeV, copV, bopV, biV, bi2V, truV, fin, okFin, finals, callNow, argsNow, argNow, lent, back, hidOf, hid2Of, VI.bind, VI.binds, tgs, tgss, asgI, asgs, wipeE, unset, keepP, items]) (sizeLine_big (by have := ok.ml; simp; omega))
  simp at hcc
  have hst : s.step e.fs c = (cl.movs.find? fun p => p.1.meets e.fs).map fun p => p.2.toNat := by
    unfold Show.step
    rw [List.getElem?_eq_getElem hc, hcl]
    dsimp only
    unfold Cls.moved
    rw [Option.map_map]
    rfl
  rw [hst]
  cases hf : cl.movs.find? fun p => p.1.meets e.fs with
  | none =>
    have hnil : cl.movs.filter (fun p => p.1.meets e.fs) = [] := by
      rw [List.filter_eq_nil_iff]
      exact List.find?_eq_none.1 hf
    rw [hnil] at hcc
    refine ⟨some (.list [], .o), ?_⟩
    simp at hcc
    simp [ir__law_end_b1, runFn, exs, ex, ev, evs, evArgs, evO, evAnd, evOr, evIt, entry, tst, truE, rdOf, tkOf, fstOf, lateOf, quiet, quiets, quietO, pers, look, keepV, readV, takeV, copV, bopV, biV, bi2V, truV, fin, okFin, finals, callNow, argsNow, argNow, lent, back, hidOf, hid2Of, VI.bind, VI.binds, tgs, tgss, asgI, asgs, wipeE, unset, keepP, items, e1, e2, e3, hcc, pyEqI, pyEqS, pyEqB, pyEqSI, pyEqIS, pyEqNI, pyEqIN, pyEqNN, pyEqNil]
  | some p =>
    have hcons : ∃ t, cl.movs.filter (fun p => p.1.meets e.fs) = p :: t := by
      have := List.head?_filter (p := fun p : Tst × Int => p.1.meets e.fs) (l := cl.movs)
      rw [hf] at this
      cases h : cl.movs.filter (fun p => p.1.meets e.fs) with
      | nil => rw [h] at this; cases this
      | cons a t => rw [h] at this; simp at this; subst this; exact ⟨t, rfl⟩
    obtain ⟨t, ht⟩ := hcons
    rw [ht] at hcc
    have mo := ok.m p (List.mem_of_find?_eq_some hf)
    have hp : ((p.2.toNat : Nat) : Int) = p.2 := Int.toNat_of_nonneg mo.lo
    refine ⟨some (.list ((p :: t).map fun p => .int p.2), .o), ?_⟩
    simp at hcc
    simp [ir__law_end_b1, runFn, exs, ex, ev, evs, evArgs, evO, evAnd, evOr, evIt, entry, tst, truE, rdOf, tkOf, fstOf, lateOf, quiet, quiets, quietO, pers, look, keepV, readV, takeV, copV, bopV, biV, bi2V, truV, fin, okFin, finals, callNow, argsNow, argNow, lent, back, hidOf, hid2Of, VI.bind, VI.binds, tgs, tgss, asgI, asgs, wipeE, unset, keepP, items, e1, e2, e3, hcc, pyEqI, pyEqS, pyEqB, pyEqSI, pyEqIS, pyEqNI, pyEqIN, pyEqNN, pyEqNil, hp, mo.lo]
theorem end_loop {s : Show} {e : Ent} (hs : ShowOK s) (he : EntOK s e) (hL : MeetsC f_meets 5 C) : ∀ (ys : List Nat) (c : Nat) (s3 s4 : Slot), c < s.cls.length → ∃ s2' s3' s4',
    forL (.nm 3) (exs C (ir__law_end_b1 f_meets)) (ys.map fun (i : Nat) => PyData.int i) [some (s.enc, .p), some (e.enc, .p), some (.int c, .p), s3, s4, none, none] =
      some (match endF (s.step e.fs) ys.length c with
        | some x => .rt (.int x) false
        | none => .nx, [some (s.enc, .p), some (e.enc, .p), s2', s3', s4', none, none])
  | [], c, s3, s4, hc => ⟨_, _, _, rfl⟩
  | y :: ys, c, s3, s4, hc => by
    obtain ⟨s4', h1⟩ := end_turn (C := C) (s3 := some (.int y, .p)) (s4 := s4) hs he hc hL
    have hb : VI.bind (.nm 3) (.int y) [some (s.enc, .p), some (e.enc, .p), some (.int c, .p), s3, s4, none, none] = some [some (s.enc, .p), some (e.enc, .p), some (.int c, .p), some (.int y, .p), s4, none, none] := rfl
    cases hst : s.step e.fs c with
    | none =>
      rw [hst] at h1
      refine ⟨some (.int c, .p), some (.int y, .p), s4', ?_⟩
      simp only [List.map_cons, forL, hb, h1, List.length_cons, endF, hst]
    | some c' =>
      rw [hst] at h1
      obtain ⟨s2', s3', s4'', h2⟩ := end_loop hs he hL ys c' (some (.int y, .p)) s4' (step_ok hs hst).1
      refine ⟨s2', s3', s4'', ?_⟩
      simp only [List.map_cons, forL, hb, h1, h2, List.length_cons, endF, hst]
theorem end_lev (hf : Γ[f]? = some (ir__law_end f_meets)) (hL : Lev Γ n (MeetsC f_meets 5)) : Lev Γ (n + 1) (EndC f) := by
  refine lev_of fun k hk s e hs he => ?_
  rw [call_at hf]
  obtain ⟨s2', s3', s4', h1⟩ := end_loop (C := call Γ k) hs he (hL k hk) (List.range s.cls.length) e.c none none he.c
  have e1 : ixV s.enc (.int 1) = some (.tuple (s.cls.map Cls.enc)) := at1
  have e2 : ixV e.enc (.int 1) = some (.int e.c) := at1
  have z1 : int62 (s.cls.length : Int) = true := by have := hs.c6; simp only [int62, decide_eq_true_eq]; omega
  rw [List.length_range, show endF (s.step e.fs) s.cls.length e.c = s.ends e from rfl] at h1
  cases h : s.ends e with
  | none => rw [h] at h1; simp [ir__law_end, runFn, exs, ex, ev, evs, evArgs, evO, evAnd, evOr, evIt, entry, tst, truE, rdOf, tkOf, fstOf, lateOf, quiet, quiets, quietO, pers, look, keepV, readV, takeV, copV, bopV, biV, bi2V, truV, fin, okFin, finals, callNow, argsNow, argNow, lent, back, hidOf, hid2Of, VI.bind, VI.binds, tgs, tgss, asgI, asgs, wipeE, unset, keepP, items, e1, e2, z1, rngD0, h1, endI]
  | some x => rw [h] at h1; simp [ir__law_end, runFn, exs, ex, ev, evs, evArgs, evO, evAnd, evOr, evIt, entry, tst, truE, rdOf, tkOf, fstOf, lateOf, quiet, quiets, quietO, pers, look, keepV, readV, takeV, copV, bopV, biV, bi2V, truV, fin, okFin, finals, callNow, argsNow, argNow, lent, back, hidOf, hid2Of, VI.bind, VI.binds, tgs, tgss, asgI, asgs, wipeE, unset, keepP, items, e1, e2, z1, rngD0, h1, endI]
theorem intsOf_map : ∀ l : List Int, intsOf (l.map .int) = some l
  | [] => rfl
  | x :: l => by simp [intsOf, intsOf_map l]
theorem perm_map {α : Type} {f : α → PyData} : ∀ {r m : List PyData}, r.Perm m → ∀ {l : List α}, m = l.map f → ∃ l' : List α, r = l'.map f ∧ l'.Perm l := by
  intro r m h
  induction h with
  | nil =>
    intro l e
    cases l with
    | nil => exact ⟨[], rfl, List.Perm.refl _⟩
    | cons _ _ => cases e
  | cons x h ih =>
    intro l e
    cases l with
    | nil => cases e
    | cons y l =>
      rw [List.map_cons, List.cons.injEq] at e
      obtain ⟨l', e1, e2⟩ := ih e.2
      exact ⟨y :: l', by rw [List.map_cons, e.1, e1], e2.cons y⟩
  | swap x y t =>
    intro l e
    match l, e with
    | a :: b :: l, e =>
      rw [List.map_cons, List.map_cons, List.cons.injEq, List.cons.injEq] at e
      exact ⟨b :: a :: l, by rw [List.map_cons, List.map_cons, e.1, e.2.1, e.2.2], List.Perm.swap _ _ _⟩
    | [_], e => cases e
    | [], e => cases e
  | trans h1 h2 ih1 ih2 =>
    intro l e
    obtain ⟨l2, e1, e2⟩ := ih2 e
    obtain ⟨l1, e3, e4⟩ := ih1 e1
    exact ⟨l1, e3, e4.trans e2⟩
theorem zipIdx_range {α : Type} (d : α) (es : List α) : es.zipIdx = (List.range es.length).map fun k => (es.getD k d, k) := by
  apply List.ext_getElem
  · simp
  · intro i h1 h2
    simp at h1
    simp [List.getElem?_eq_getElem h1]
def ent0 : Ent := ⟨0, 0, []⟩
theorem judged_range (s : Show) (es : List Ent) (c : Nat) : s.judged es c = (List.range es.length).filter fun k => decide (s.ends (es.getD k ent0) = some c) := by
  unfold Show.judged
  rw [zipIdx_range ent0, List.filter_map, List.map_map]
  have : ((fun x : Ent × Nat => x.2) ∘ fun k => (es.getD k ent0, k)) = id := rfl
  rw [this, List.map_id]
  rfl
theorem endI_eq (o : Option Nat) (c : Nat) : (endI o = (c : Int)) ↔ o = some c := by
  cases o with
  | none => simp [endI]
  | some x => simp [endI]; omega
theorem judged_count (s : Show) (c : Nat) : ∀ (es : List Ent) (n : Nat), ((es.zipIdx n).filter fun p => decide (s.ends p.1 = some c)).length = (es.map fun e => endI (s.ends e)).count (c : Int)
  | [], n => rfl
  | e :: es, n => by
    rw [List.zipIdx_cons, List.filter_cons, List.map_cons, List.count_cons]
    have ih := judged_count s c es (n + 1)
    by_cases h : s.ends e = some c
    · have h2 := (endI_eq (s.ends e) c).2 h
      simp [h, h2, ih]
      simp [endI]
    · have h2 : ¬ endI (s.ends e) = (c : Int) := fun z => h ((endI_eq _ _).1 z)
      simp [h, h2, ih]
def StateC (f : Nat) (C : CallF) : Prop := ∀ d i (s : Show) (many : Nat), PenOK d i → ShowOK s → many ≤ 24 → i + 400 ≤ 2147483648 →
  ∃ (st : St) (d' : PyData), C f [(d, true), (s.enc, false), (.int many, false)] = some (st.enc, false, [(d', true), (s.enc, false), (.int many, false)]) ∧ StOK s st ∧ PenOK d' (i + 400)
theorem state_one {s : Show} {d : PyData} {i : Nat} {es : List Ent} {s2 s5 s6 s7 s8 s9 s10 s11 : Slot} (hs : ShowOK s) (hE : EntryC f_entry C) (hN : EndC f_end C) (hd : PenOK d i) (hi : i + 6 ≤ 2147483648) (he : ∀ e ∈ es, EntOK s e) (hl : es.length ≤ 24) (hc : ∀ x, (es.map fun e => endI (s.ends e)).count x ≤ 8) : ∃ (d' : PyData) (es' : List Ent) (s6' s7' : Slot),
    exs C (ir__law_state_b1 f_entry f_end) [some (d, .b), some (s.enc, .p), s2, some (.list (es.map Ent.enc), .o), some (.list ((es.map fun e => endI (s.ends e)).map .int), .o), s5, s6, s7, s8, s9, s10, s11] =
      some (.nx, [some (d', .b), some (s.enc, .p), s2, some (.list (es'.map Ent.enc), .o), some (.list ((es'.map fun e => endI (s.ends e)).map .int), .o), s5, s6', s7', s8, s9, s10, s11]) ∧ (∀ e ∈ es', EntOK s e) ∧ es'.length ≤ es.length + 1 ∧ (∀ x, (es'.map fun e => endI (s.ends e)).count x ≤ 8) ∧ PenOK d' (i + 6) := by
  obtain ⟨e, d1, a1, a2, a3⟩ := hE d i s hd hs hi
  have b1 := hN s e hs a2
  have hz : es.length < sizeLine := sizeLine_big (n := es.length + 1) (by omega)
  have hm := intsOf_map (es.map fun e => endI (s.ends e))
  by_cases h8 : (es.map fun e => endI (s.ends e)).count (endI (s.ends e)) < 8
  · refine ⟨d1, es ++ [e], some (e.enc, .p), some (.int (endI (s.ends e)), .p), ?_, ?_, by simp, fun x => ?_, a3⟩
    · have h8' : (((es.map fun e => endI (s.ends e)).count (endI (s.ends e)) : Nat) : Int) < 8 := by omega
      generalize hF : (es.map fun e => endI (s.ends e)) = F at hm h8'
      rw [List.map_append, List.map_append, List.map_append, hF]
      have hzF : F.length < sizeLine := by rw [← hF, List.length_map]; exact hz
      simp [ir__law_state_b1, runFn, exs, ex, ev, evs, evArgs, evO, evAnd, evOr, evIt, entry, tst, truE, rdOf, tkOf, fstOf, lateOf, quiet, quiets, quietO, pers, look, keepV, readV, takeV, copV, bopV, biV, bi2V, truV, fin, okFin, finals, callNow, argsNow, argNow, lent, back, hidOf, hid2Of, VI.bind, VI.binds, tgs, tgss, asgI, asgs, wipeE, unset, keepP, items, a1, b1, meV, hm, h8', muV, appendV, hz, hzF]
    · intro x hx
      rcases List.mem_append.1 hx with h | h
      · exact he x h
      · simp at h; subst h; exact a2
    · rw [List.map_append, List.count_append, List.map_singleton, List.count_singleton]
      have := hc x
      split
      · rename_i hx
        have hx : endI (s.ends e) = x := by simpa using hx
        rw [hx] at h8
        omega
      · omega
  · refine ⟨d1, es, some (e.enc, .p), some (.int (endI (s.ends e)), .p), ?_, he, by omega, hc, a3⟩
    have h8' : ¬ (((es.map fun e => endI (s.ends e)).count (endI (s.ends e)) : Nat) : Int) < 8 := by omega
    generalize (es.map fun e => endI (s.ends e)) = F at hm h8' ⊢
    simp [ir__law_state_b1, runFn, exs, ex, ev, evs, evArgs, evO, evAnd, evOr, evIt, entry, tst, truE, rdOf, tkOf, fstOf, lateOf, quiet, quiets, quietO, pers, look, keepV, readV, takeV, copV, bopV, biV, bi2V, truV, fin, okFin, finals, callNow, argsNow, argNow, lent, back, hidOf, hid2Of, VI.bind, VI.binds, tgs, tgss, asgI, asgs, wipeE, unset, keepP, items, a1, b1, meV, hm, h8']
theorem state_orders {s : Show} {d : PyData} {i : Nat} {es : List Ent} {c : Nat} {os : List (Option (List Nat))} {s2 s5 s6 s7 s8 s11 : Slot} (hs : ShowOK s) (hD : DrawC f_draw C) (hT : TurnedC f_turned C) (hd : PenOK d i) (hi : i + 30 ≤ 2147483648) (hl : es.length ≤ 24) (ho : os.length ≤ 10) : ∃ (d' : PyData) (o : Option (List Nat)) (s5' s11' : Slot),
    exs C (ir__law_state_b2 f_turned f_draw) [some (d, .b), some (s.enc, .p), s2, some (.list (es.map Ent.enc), .o), some (.list ((es.map fun e => endI (s.ends e)).map .int), .o), s5, s6, s7, s8, some (.list (os.map ordD), .o), some (.int c, .p), s11] =
      some (.nx, [some (d', .b), some (s.enc, .p), s2, some (.list (es.map Ent.enc), .o), some (.list ((es.map fun e => endI (s.ends e)).map .int), .o), s5', s6, s7, s8, some (.list ((os ++ [o]).map ordD), .o), some (.int c, .p), s11']) ∧ (∀ l, o = some l → l.Perm (s.judged es c)) ∧ PenOK d' (i + 30) := by
  have hj : (s.judged es c).length ≤ 24 := by
    rw [judged_range]
    have := List.length_filter_le (fun k => decide (s.ends (es.getD k ent0) = some c)) (List.range es.length)
    rw [List.length_range] at this
    omega
  have hcc := compL_pure (t := .nm 5) (own := [5]) (cs := evCs C ir__law_state_c2) (e := ev C ir__law_state_e2) (fun (k : Nat) => PyData.int k) (fun k => decide (s.ends (es.getD k ent0) = some c)) (fun (k : Nat) => PyData.int k) (ys := List.range es.length) (acc := []) (env := [some (d, .b), some (s.enc, .p), s2, some (.list (es.map Ent.enc), .o), some (.list ((es.map fun e => endI (s.ends e)).map .int), .o), none, s6, s7, s8, some (.list (os.map ordD), .o), some (.int c, .p), s11]) (by
    intro y hy
    have hy := List.mem_range.1 hy
    have e1 : ixV (.list ((es.map fun e => endI (s.ends e)).map .int)) (.int y) = some (.int (endI (s.ends (es.getD y ent0)))) := atI_of (by simp [List.getElem?_eq_getElem hy])
    have e2 : (endI (s.ends (es.getD y ent0)) = (c : Int)) ↔ s.ends (es.getD y ent0) = some c := endI_eq _ _
    refine ⟨_, [some (d, .b), some (s.enc, .p), s2, some (.list (es.map Ent.enc), .o), some (.list ((es.map fun e => endI (s.ends e)).map .int), .o), some (.int y, .p), s6, s7, s8, some (.list (os.map ordD), .o), some (.int c, .p), s11], rfl, ?_, fun _ => rfl, fun _ => ⟨false, [some (d, .b), some (s.enc, .p), s2, some (.list (es.map Ent.enc), .o), some (.list ((es.map fun e => endI (s.ends e)).map .int), .o), some (.int y, .p), s6, s7, s8, some (.list (os.map ordD), .o), some (.int c, .p), s11], ?_, rfl⟩⟩
    · generalize (es.map fun e => endI (s.ends e)) = F at e1 ⊢
      generalize s.ends (es.getD y ent0) = oo at e1 e2 ⊢
      by_cases h : oo = some c
      · have h2 := e2.2 h
        rw [h2] at e1
        simp [ir__law_state_c2, evCs, runFn, exs, ex, ev, evs, evArgs, evO, evAnd, evOr, evIt, entry, tst, truE, rdOf, tkOf, fstOf, lateOf, quiet, quiets, quietO, pers, look, keepV, readV, takeV, copV, bopV, biV, bi2V, truV, fin, okFin, finals, callNow, argsNow, argNow, lent, back, hidOf, hid2Of, VI.bind, VI.binds, tgs, tgss, asgI, asgs, wipeE, unset, keepP, items, e1, pyEqI, pyEqS, pyEqB, pyEqSI, pyEqIS, pyEqNI, pyEqIN, pyEqNN, pyEqNil, h]
      · have h2 : ¬ endI oo = (c : Int) := fun z => h (e2.1 z)
        simp [ir__law_state_c2, evCs, runFn, exs, ex, ev, evs, evArgs, evO, evAnd, evOr, evIt, entry, tst, truE, rdOf, tkOf, fstOf, lateOf, quiet, quiets, quietO, pers, look, keepV, readV, takeV, copV, bopV, biV, bi2V, truV, fin, okFin, finals, callNow, argsNow, argNow, lent, back, hidOf, hid2Of, VI.bind, VI.binds, tgs, tgss, asgI, asgs, wipeE, unset, keepP, items, e1, pyEqI, pyEqS, pyEqB, pyEqSI, pyEqIS, pyEqNI, pyEqIN, pyEqNN, pyEqNil, h, h2]
    · simp [ir__law_state_e2, runFn, exs, ex, ev, evs, evArgs, evO, evAnd, evOr, evIt, entry, tst, truE, rdOf, tkOf, fstOf, lateOf, quiet, quiets, quietO, pers, look, keepV, readV, takeV, copV, bopV, biV, bi2V, truV, fin, okFin, finals, callNow, argsNow, argNow, lent, back, hidOf, hid2Of, VI.bind, VI.binds, tgs, tgss, asgI, asgs, wipeE, unset, keepP, items]) (sizeLine_big (by simp; omega))
  rw [List.nil_append, ← judged_range] at hcc
  obtain ⟨r, d1, a1, a2, a3⟩ := hT d i ((s.judged es c).map fun (k : Nat) => PyData.int k) hd (by simp; omega) (by simp; omega)
  obtain ⟨nl, rfl, hp⟩ := perm_map a2 rfl
  have a3 := a3.le (j := i + 24) (by simp; omega)
  obtain ⟨q, d2, b1, b2, b3, b4⟩ := hD d1 _ 3 a3 (by omega) (by decide) (by decide)
  have hz : os.length < sizeLine := sizeLine_big (n := os.length + 1) (by omega)
  have z1 : int62 (es.length : Int) = true := by simp only [int62, decide_eq_true_eq]; omega
  obtain ⟨o, ho2, hx⟩ : ∃ o : Option (List Nat), (∀ l, o = some l → l = nl) ∧ ixV (.list [.tuple (nl.map fun (k : Nat) => PyData.int k), .tuple (nl.map fun (k : Nat) => PyData.int k), .none]) (.int q) = some (ordD o) := by
    have : q = 0 ∨ q = 1 ∨ q = 2 := by omega
    rcases this with rfl | rfl | rfl
    · exact ⟨some nl, fun l h => (by cases h; rfl), at0L⟩
    · exact ⟨some nl, fun l h => (by cases h; rfl), at1L⟩
    · exact ⟨none, fun l h => (by cases h), at2L⟩
  refine ⟨d2, o, keepP s5, some (.list (nl.map fun (k : Nat) => PyData.int k), .o), ?_, fun l h => (ho2 l h) ▸ hp, b4.le (by omega)⟩
  generalize (es.map fun e => endI (s.ends e)) = F at hcc ⊢
  generalize (s.judged es c) = J at hcc a1
  simp [ir__law_state_b2, runFn, exs, ex, ev, evs, evArgs, evO, evAnd, evOr, evIt, entry, tst, truE, rdOf, tkOf, fstOf, lateOf, quiet, quiets, quietO, pers, look, keepV, readV, takeV, copV, bopV, biV, bi2V, truV, fin, okFin, finals, callNow, argsNow, argNow, lent, back, hidOf, hid2Of, VI.bind, VI.binds, tgs, tgss, asgI, asgs, wipeE, unset, keepP, items, z1, rngD0, hcc, a1, b1, hx, muV, appendV, hz]
theorem state_lev (hf : Γ[f]? = some (ir__law_state f_draw f_entry f_end f_turned)) (hD : Lev Γ n (DrawC f_draw)) (hE : Lev Γ n (EntryC f_entry)) (hN : Lev Γ n (EndC f_end)) (hT : Lev Γ n (TurnedC f_turned)) : Lev Γ (n + 1) (StateC f) := by
  refine lev_of fun k hk d i s many hd hs hm hi => ?_
  rw [call_at hf]
  have hD := hD k hk
  have hE := hE k hk
  have hN := hN k hk
  have hT := hT k hk
  have hc6 := hs.c6
  obtain ⟨r, d1, a1, a2, a3, a4⟩ := hD d i (many + 1) hd (by omega) (by omega) (by omega)
  obtain ⟨env1, b1, d2, es, s5, s6, s7, rfl, b2, b3, b4, b5⟩ := forL_pre (t := .nm 5) (b := exs (call Γ k) (ir__law_state_b1 f_entry f_end)) (fun (i : Nat) => PyData.int i) (fun pre env => ∃ d' es s5 s6 s7, env = [some (d', .b), some (s.enc, .p), some (.int many, .p), some (.list (es.map Ent.enc), .o), some (.list ((es.map fun e => endI (s.ends e)).map .int), .o), s5, s6, s7, none, none, none, none] ∧ (∀ e ∈ es, EntOK s e) ∧ es.length ≤ pre.length ∧ (∀ x, (es.map fun e => endI (s.ends e)).count x ≤ 8) ∧ PenOK d' (i + 1 + 6 * pre.length))
    (all := List.range r.toNat) (ys := List.range r.toNat) (pre := []) (env := [some (d1, .b), some (s.enc, .p), some (.int many, .p), some (.list [], .o), some (.list [], .o), none, none, none, none, none, none, none]) rfl ⟨d1, [], none, none, none, rfl, by simp, by simp, by simp, a4⟩ (by
      rintro pre y post env ha ⟨d2, es, s5, s6, s7, rfl, h1, h2, h3, hp⟩
      have hl2 := congrArg List.length ha
      simp at hl2
      obtain ⟨d3, es', s6', s7', e1, e2, e3, e4, e5⟩ := state_one (C := call Γ k) (es := es) (s2 := some (.int many, .p)) (s5 := some (.int y, .p)) (s6 := s6) (s7 := s7) (s8 := none) (s9 := none) (s10 := none) (s11 := none) hs hE hN hp (by omega) h1 (by omega) h3
      exact ⟨_, _, rfl, Or.inl e1, d3, es', _, s6', s7', rfl, e2, by simp; omega, e4, e5.le (by simp; omega)⟩)
  have hel : es.length ≤ 24 := by simp at b3; omega
  have b5 := b5.le (j := i + 145) (by simp; omega)
  obtain ⟨ks, env2, g1, g2, d3, rfl, g3⟩ := compL_sub (t := .nm 5) (own := [5]) (cs := evCs (call Γ k) (ir__law_state_c1 f_draw)) (e := ev (call Γ k) ir__law_state_e1) (fun (k : Nat) => PyData.int k) (fun (k : Nat) => PyData.int k) (fun j env => ∃ d', env = [some (d', .b), some (s.enc, .p), some (.int many, .p), some (.list (es.map Ent.enc), .o), some (.list ((es.map fun e => endI (s.ends e)).map .int), .o), none, s6, s7, none, none, none, none] ∧ PenOK d' (i + 145 + j)) (ys := List.range es.length) (acc := []) (j := 0)
    (env := [some (d2, .b), some (s.enc, .p), some (.int many, .p), some (.list (es.map Ent.enc), .o), some (.list ((es.map fun e => endI (s.ends e)).map .int), .o), none, s6, s7, none, none, none, none]) ⟨d2, rfl, b5⟩ (by
      rintro j y env hy ⟨d2, rfl, hp⟩
      have hj := (List.getElem?_eq_some_iff.1 hy).1
      simp at hj
      obtain ⟨r, d3, c1, c2, c3, c4⟩ := hD d2 _ 5 hp (by omega) (by decide) (by decide)
      refine ⟨_, decide (r = 0), [some (d3, .b), some (s.enc, .p), some (.int many, .p), some (.list (es.map Ent.enc), .o), some (.list ((es.map fun e => endI (s.ends e)).map .int), .o), some (.int y, .p), s6, s7, none, none, none, none], rfl, ?_, fun _ => ⟨d3, rfl, c4.le (by omega)⟩, fun _ => ⟨false, [some (d3, .b), some (s.enc, .p), some (.int many, .p), some (.list (es.map Ent.enc), .o), some (.list ((es.map fun e => endI (s.ends e)).map .int), .o), some (.int y, .p), s6, s7, none, none, none, none], ?_, d3, rfl, c4.le (by omega)⟩⟩
      · generalize (es.map fun e => endI (s.ends e)) = F
        by_cases h : r = 0
        · subst h; simp [ir__law_state_c1, evCs, runFn, exs, ex, ev, evs, evArgs, evO, evAnd, evOr, evIt, entry, tst, truE, rdOf, tkOf, fstOf, lateOf, quiet, quiets, quietO, pers, look, keepV, readV, takeV, copV, bopV, biV, bi2V, truV, fin, okFin, finals, callNow, argsNow, argNow, lent, back, hidOf, hid2Of, VI.bind, VI.binds, tgs, tgss, asgI, asgs, wipeE, unset, keepP, items, c1, pyEqI, pyEqS, pyEqB, pyEqSI, pyEqIS, pyEqNI, pyEqIN, pyEqNN, pyEqNil]
        · simp [ir__law_state_c1, evCs, runFn, exs, ex, ev, evs, evArgs, evO, evAnd, evOr, evIt, entry, tst, truE, rdOf, tkOf, fstOf, lateOf, quiet, quiets, quietO, pers, look, keepV, readV, takeV, copV, bopV, biV, bi2V, truV, fin, okFin, finals, callNow, argsNow, argNow, lent, back, hidOf, hid2Of, VI.bind, VI.binds, tgs, tgss, asgI, asgs, wipeE, unset, keepP, items, c1, pyEqI, pyEqS, pyEqB, pyEqSI, pyEqIS, pyEqNI, pyEqIN, pyEqNN, pyEqNil, h]
      · simp [ir__law_state_e1, runFn, exs, ex, ev, evs, evArgs, evO, evAnd, evOr, evIt, entry, tst, truE, rdOf, tkOf, fstOf, lateOf, quiet, quiets, quietO, pers, look, keepV, readV, takeV, copV, bopV, biV, bi2V, truV, fin, okFin, finals, callNow, argsNow, argNow, lent, back, hidOf, hid2Of, VI.bind, VI.binds, tgs, tgss, asgI, asgs, wipeE, unset, keepP, items]) (sizeLine_big (by simp; omega))
  rw [List.nil_append] at g1
  have g3 := g3.le (j := i + 169) (by simp; omega)
  obtain ⟨env3, m1, d4, os, s5', s10', s11', rfl, m2, m3, m4⟩ := forL_pre (t := .nm 10) (b := exs (call Γ k) (ir__law_state_b2 f_turned f_draw)) (fun (i : Nat) => PyData.int i) (fun pre env => ∃ d' os s5 s10 s11, env = [some (d', .b), some (s.enc, .p), some (.int many, .p), some (.list (es.map Ent.enc), .o), some (.list ((es.map fun e => endI (s.ends e)).map .int), .o), s5, s6, s7, some (.list (natsD ks), .o), some (.list (os.map ordD), .o), s10, s11] ∧ os.length = pre.length ∧ (∀ (c : Nat) l, os[c]? = some (some l) → ∀ c', pre[c]? = some c' → l.Perm (s.judged es c')) ∧ PenOK d' (i + 169 + 30 * pre.length))
    (all := List.range s.cls.length) (ys := List.range s.cls.length) (pre := []) (env := [some (d3, .b), some (s.enc, .p), some (.int many, .p), some (.list (es.map Ent.enc), .o), some (.list ((es.map fun e => endI (s.ends e)).map .int), .o), keepP s5, s6, s7, some (.list (natsD ks), .o), some (.list [], .o), none, none]) rfl ⟨d3, [], keepP s5, none, none, rfl, rfl, by simp, g3⟩ (by
      rintro pre y post env ha ⟨d2, os, s5, s10, s11, rfl, h1, h2, hp⟩
      have hl2 := congrArg List.length ha
      simp at hl2
      obtain ⟨d3, o, s5', s11', e1, e2, e3⟩ := state_orders (C := call Γ k) (es := es) (c := y) (os := os) (s2 := some (.int many, .p)) (s5 := s5) (s6 := s6) (s7 := s7) (s8 := some (.list (natsD ks), .o)) (s11 := s11) hs hD hT hp (by omega) hel (by omega)
      refine ⟨_, _, rfl, Or.inl e1, d3, os ++ [o], s5', some (.int y, .p), s11', rfl, by simp [h1], ?_, e3.le (by simp; omega)⟩
      intro c l hc c' hc'
      rcases Nat.lt_or_ge c os.length with hlt | hge
      · rw [List.getElem?_append_left hlt] at hc
        rw [List.getElem?_append_left (by omega)] at hc'
        exact h2 c l hc c' hc'
      · rw [List.getElem?_append_right hge] at hc
        rw [List.getElem?_append_right (by omega)] at hc'
        have h0 : c - os.length = 0 := by
          have := (List.getElem?_eq_some_iff.1 hc).1
          simp at this
          omega
        rw [h0] at hc
        rw [show c - pre.length = 0 by omega] at hc'
        simp at hc hc'
        subst hc'
        exact e2 l hc)
  refine ⟨⟨es, ks, os⟩, d4, ?_, ⟨b2, hel, fun c => ?_, g2, by simpa using m2, fun c l hc => ?_⟩, m4.le (by simp; omega)⟩
  · have z1 : int62 r = true := by simp only [int62, decide_eq_true_eq]; omega
    have z2 : int62 (es.length : Int) = true := by simp only [int62, decide_eq_true_eq]; omega
    have z3 : int62 (s.cls.length : Int) = true := by simp only [int62, decide_eq_true_eq]; omega
    have e1 : ixV s.enc (.int 1) = some (.tuple (s.cls.map Cls.enc)) := at1
    simp only [St.enc, natsD] at m1 ⊢
    generalize (es.map fun e => endI (s.ends e)) = F at b1 g1 m1
    simp only [keepP] at m1
    simp [ir__law_state, runFn, exs, ex, ev, evs, evArgs, evO, evAnd, evOr, evIt, entry, tst, truE, rdOf, tkOf, fstOf, lateOf, quiet, quiets, quietO, pers, look, keepV, readV, takeV, copV, bopV, biV, bi2V, truV, fin, okFin, finals, callNow, argsNow, argNow, lent, back, hidOf, hid2Of, VI.bind, VI.binds, tgs, tgss, asgI, asgs, wipeE, unset, keepP, items, a1, z1, rngD0, b1, z2, g1, e1, z3, m1]
  · have := judged_count s c es 0
    have h2 := b4 c
    unfold Show.judged
    rw [List.length_map, this]
    exact h2
  · dsimp only at hc ⊢
    have hlt := (List.getElem?_eq_some_iff.1 hc).1
    exact m3 c l hc c (by simp at m2; rw [List.getElem?_eq_getElem (by simp; omega)]; simp)
end
end VI
set_option maxRecDepth 100000
set_option maxHeartbeats 4000000
/-! The second kind of pen. -/
namespace VI
open PySem
def irPen2 : Fn := ⟨1, 1,
   [(.ret (.dct [(.cst (.str "script")), (.var 0), (.cst (.str "at")), (.cst (.int 0)), (.cst (.str "great")), (.cst (.int 0))]))], []⟩
def irDraw2 : Fn := ⟨2, 7,
   [(.ifs (.cmp .gt (.ix (.var 0) (.cst (.str "great"))) (.cst (.int 0))) [(.asg (.nm 2) (.bop .mod (.ix (.var 0) (.cst (.str "great"))) (.var 1))),
    (.set 0 (.cst (.str "great")) (.bop .fdiv (.ix (.var 0) (.cst (.str "great"))) (.var 1))),
    (.ret (.var 2))] []),
    (.asg (.nm 3) (.ix (.var 0) (.cst (.str "script")))),
    (.asg (.nm 4) (.ix (.var 0) (.cst (.str "at")))),
    (.set 0 (.cst (.str "at")) (.bop .add (.var 4) (.cst (.int 1)))),
    (.asg (.nm 5) (.bop .add (.bop .mul (.cst (.int 70249)) (.var 4)) (.cst (.int 55)))),
    (.ifs (.cmp .ne (.var 3) (.lst [])) [(.asg (.nm 5) (.ix (.var 3) (.bop .mod (.var 4) (.bi .len (.var 3)))))] []),
    (.ifs (.andv [(.cmp .lt (.var 4) (.bi .len (.var 3))), (.cmp .ge (.bi .abs (.var 5)) (.bop .pow (.cst (.int 10)) (.cst (.int 18))))]) [(.set 0 (.cst (.str "great")) (.bop .fdiv (.bi .abs (.var 5)) (.var 1))),
    (.ret (.bop .mod (.bi .abs (.var 5)) (.var 1)))] []),
    (.asg (.nm 6) (.bop .mod (.bop .mul (.bop .add (.bop .add (.bop .mod (.var 5) (.cst (.int 2147483543))) (.bop .mul (.cst (.int 5801)) (.var 4))) (.cst (.int 3))) (.cst (.int 40009))) (.cst (.int 2147483543)))),
    (.asg (.nm 6) (.bop .mod (.bop .add (.bop .add (.bop .mul (.var 6) (.var 6)) (.bop .mul (.cst (.int 50021)) (.var 6))) (.var 4)) (.cst (.int 2147483423)))),
    (.asg (.nm 6) (.bop .mod (.bop .add (.bop .add (.bop .mul (.var 6) (.var 6)) (.bop .mul (.cst (.int 20011)) (.var 6))) (.cst (.int 9))) (.cst (.int 2147483297)))),
    (.ret (.bop .mod (.bop .fdiv (.var 6) (.cst (.int 32))) (.var 1)))], [2, 3, 4, 5, 5, 6, 6, 6]⟩
def penD2 (cs : List Int) (a l : Int) : PyData := .dict [(.str "script", .list (cs.map .int)), (.str "at", .int a), (.str "great", .int l)]
section
variable {cs : List Int} {a l m v : Int} {C : CallF}
theorem pen2_left : ixV (penD2 cs a l) (.str "great") = some (.int l) := by rfl
theorem pen2_at : ixV (penD2 cs a l) (.str "at") = some (.int a) := by rfl
theorem pen2_cells : ixV (penD2 cs a l) (.str "script") = some (.list (cs.map .int)) := by rfl
theorem pen2_setA : setV (penD2 cs a l) (.str "at") (.int v) = some (penD2 cs v l) := by
  unfold setV penD2
  dsimp only [keyOf]
  rw [if_pos (by rw [sizeLine_eq]; simp)]
  rfl
theorem pen2_setL : setV (penD2 cs a l) (.str "great") (.int v) = some (penD2 cs a v) := by
  unfold setV penD2
  dsimp only [keyOf]
  rw [if_pos (by rw [sizeLine_eq]; simp)]
  rfl
theorem draw2_left (hl : 0 < l) (hm : 0 < m) (hm2 : m < 1073741824) : runFn C irDraw2 [(penD2 cs a l, true), (.int m, false)] = some (.int (l.fmod m), false, [(penD2 cs a (l.fdiv m), true), (.int m, false)]) := by
  have e1 : m ≠ 0 := by omega
  have e2 : m.natAbs < 1073741824 := by omega
  simp [runFn, irDraw2, exs, ex, ev, entry, tst, truE, rdOf, fstOf, lateOf, quiet, pers, look, keepV, readV, takeV, tkOf, pen2_left, copV, hl, truV, bopV, e1, e2, pen2_setL, fin, okFin, finals]
def mix1 (c a : Int) : Int := ((c.fmod 2147483543 + 5801 * a + 3) * 40009).fmod 2147483543
def mix2 (c a : Int) : Int := (mix1 c a * mix1 c a + 50021 * mix1 c a + a).fmod 2147483423
def mixN (c a : Int) : Int := (mix2 c a * mix2 c a + 20011 * mix2 c a + 9).fmod 2147483297
def mix3 (c a m : Int) : Int := ((mixN c a).fdiv 32).fmod m
def draw2Tail : List IS := [(.asg (.nm 6) (.bop .mod (.bop .mul (.bop .add (.bop .add (.bop .mod (.var 5) (.cst (.int 2147483543))) (.bop .mul (.cst (.int 5801)) (.var 4))) (.cst (.int 3))) (.cst (.int 40009))) (.cst (.int 2147483543)))),
    (.asg (.nm 6) (.bop .mod (.bop .add (.bop .add (.bop .mul (.var 6) (.var 6)) (.bop .mul (.cst (.int 50021)) (.var 6))) (.var 4)) (.cst (.int 2147483423)))),
    (.asg (.nm 6) (.bop .mod (.bop .add (.bop .add (.bop .mul (.var 6) (.var 6)) (.bop .mul (.cst (.int 20011)) (.var 6))) (.cst (.int 9))) (.cst (.int 2147483297)))),
    (.ret (.bop .mod (.bop .fdiv (.var 6) (.cst (.int 32))) (.var 1)))]
theorem draw2_tail {s0 s2 s3 s6 : Slot} {c : Int} (hm : m ≠ 0) : exs C draw2Tail [s0, some (.int m, .p), s2, s3, some (.int a, .p), some (.int c, .p), s6] =
    some (.rt (.int (mix3 c a m)) false, [s0, some (.int m, .p), s2, s3, some (.int a, .p), some (.int c, .p), some (.int (mixN c a), .p)]) := by
  have p1 : (mix1 c a).natAbs < 18446744073709551616 := by
    obtain ⟨h1, h2⟩ := fmod_pos (x := (c.fmod 2147483543 + 5801 * a + 3) * 40009) (m := 2147483543) (by decide)
    unfold mix1; omega
  have p2 : (mix2 c a).natAbs < 18446744073709551616 := by
    obtain ⟨h1, h2⟩ := fmod_pos (x := mix1 c a * mix1 c a + 50021 * mix1 c a + a) (m := 2147483423) (by decide)
    unfold mix2; omega
  simp only [mix2, mix1] at p2
  simp only [mix1] at p1
  simp [draw2Tail, exs, ex, ev, rdOf, fstOf, lateOf, quiet, pers, look, keepV, readV, tkOf, bopV, hm, mix1, mix2, mixN, mix3, p1, p2]
def draw2Head : List IS := [(.ifs (.cmp .gt (.ix (.var 0) (.cst (.str "great"))) (.cst (.int 0))) [(.asg (.nm 2) (.bop .mod (.ix (.var 0) (.cst (.str "great"))) (.var 1))),
    (.set 0 (.cst (.str "great")) (.bop .fdiv (.ix (.var 0) (.cst (.str "great"))) (.var 1))),
    (.ret (.var 2))] []),
    (.asg (.nm 3) (.ix (.var 0) (.cst (.str "script")))),
    (.asg (.nm 4) (.ix (.var 0) (.cst (.str "at")))),
    (.set 0 (.cst (.str "at")) (.bop .add (.var 4) (.cst (.int 1)))),
    (.asg (.nm 5) (.bop .add (.bop .mul (.cst (.int 70249)) (.var 4)) (.cst (.int 55)))),
    (.ifs (.cmp .ne (.var 3) (.lst [])) [(.asg (.nm 5) (.ix (.var 3) (.bop .mod (.var 4) (.bi .len (.var 3)))))] [])]
def draw2Mid : IS := (.ifs (.andv [(.cmp .lt (.var 4) (.bi .len (.var 3))), (.cmp .ge (.bi .abs (.var 5)) (.bop .pow (.cst (.int 10)) (.cst (.int 18))))]) [(.set 0 (.cst (.str "great")) (.bop .fdiv (.bi .abs (.var 5)) (.var 1))),
    (.ret (.bop .mod (.bi .abs (.var 5)) (.var 1)))] [])
theorem draw2_head (hl : ¬ 0 < l) (ha : 0 ≤ a) : ∃ c, exs C draw2Head [some (penD2 cs a l, .b), some (.int m, .p), none, none, none, none, none] =
    some (.nx, [some (penD2 cs (a + 1) l, .b), some (.int m, .p), none, some (.list (cs.map .int), .p), some (.int a, .p), some (.int c, .p), none]) := by
  by_cases hc : cs = []
  · subst hc
    refine ⟨70249 * a + 55, ?_⟩
    have := ne_nil []
    simp only [List.map_nil] at this
    simp [draw2Head, exs, ex, ev, evs, tst, truE, rdOf, fstOf, lateOf, quiet, quiets, pers, look, keepV, readV, takeV, tkOf, pen2_left, pen2_at, pen2_cells, pen2_setA, copV, hl, truV, bopV, this, sizeLine_eq] <;> simp_all [copV]
  · obtain ⟨c, hcell⟩ := at_cell hc ha
    refine ⟨c, ?_⟩
    have h1 := ne_nil cs
    have h2 : (cs.length : Int) ≠ 0 := by
      have := List.length_pos_iff.mpr hc
      omega
    have h3 : cs.isEmpty = false := by simpa using hc
    have h4 : copV .gt (.int l) (.int 0) = some false := by simp [copV, hl]
    simp [draw2Head, exs, ex, ev, evs, tst, truE, rdOf, fstOf, lateOf, quiet, quiets, pers, look, keepV, readV, takeV, tkOf, pen2_left, pen2_at, pen2_cells, pen2_setA, h4, truV, bopV, biV, h1, h2, h3, hc, hcell, sizeLine_eq]
theorem draw2_step (hl : ¬ 0 < l) (hl0 : 0 ≤ l) (ha : 0 ≤ a) (ha2 : a ≤ 2147483648) (hm : 0 < m) (hm2 : m < 1073741824) :
    ∃ r l', runFn C irDraw2 [(penD2 cs a l, true), (.int m, false)] = some (.int r, false, [(penD2 cs (a + 1) l', true), (.int m, false)]) ∧ 0 ≤ r ∧ r < m ∧ 0 ≤ l' := by
  obtain ⟨c, hh⟩ := draw2_head (cs := cs) (a := a) (l := l) (m := m) (C := C) hl ha
  have e1 : m ≠ 0 := by omega
  have e2 : m.natAbs < 1073741824 := by omega
  have body : irDraw2.body = draw2Head ++ (draw2Mid :: draw2Tail) := rfl
  have en : entry irDraw2 0 [(penD2 cs a l, true), (.int m, false)] ++ List.replicate (irDraw2.ns - irDraw2.np) none = [some (penD2 cs a l, .b), some (.int m, .p), none, none, none, none, none] := by
    simp [entry, irDraw2]
  have hA : (if c < 0 then -c else c) = (c.natAbs : Int) := by split <;> omega
  by_cases hb : a < (cs.length : Int) ∧ (1000000000000000000 : Int) ≤ (if c < 0 then -c else c)
  · refine ⟨((if c < 0 then -c else c) : Int).fmod m, ((if c < 0 then -c else c) : Int).fdiv m, ?_, (fmod_pos hm).1, (fmod_pos hm).2, ?_⟩
    · unfold runFn
      rw [if_pos (show [(penD2 cs a l, true), (PyData.int m, false)].length = irDraw2.np from rfl), body, exs_app, en, hh]
      simp [draw2Mid, exs, ex, ev, evAnd, tst, truE, rdOf, fstOf, lateOf, quiet, pers, look, keepV, readV, takeV, tkOf, pen2_setL, copV, truV, bopV, biV, hb.1, hb.2, e1, e2, fin, okFin, finals, irDraw2]
    · exact Int.fdiv_nonneg (by rw [hA]; omega) (by omega)
  · refine ⟨mix3 c a m, l, ?_, (fmod_pos hm).1, (fmod_pos hm).2, hl0⟩
    unfold runFn
    rw [if_pos (show [(penD2 cs a l, true), (PyData.int m, false)].length = irDraw2.np from rfl), body, exs_app, en, hh]
    have mid : ex C draw2Mid [some (penD2 cs (a + 1) l, .b), some (.int m, .p), none, some (.list (cs.map .int), .p), some (.int a, .p), some (.int c, .p), none] = some (.nx, [some (penD2 cs (a + 1) l, .b), some (.int m, .p), none, some (.list (cs.map .int), .p), some (.int a, .p), some (.int c, .p), none]) := by
      by_cases h1 : a < (cs.length : Int)
      · have h2 : ¬ (1000000000000000000 : Int) ≤ (if c < 0 then -c else c) := fun z => hb ⟨h1, z⟩
        simp [draw2Mid, exs, ex, ev, evAnd, tst, truE, rdOf, fstOf, lateOf, quiet, pers, look, keepV, readV, copV, truV, bopV, biV, h1, h2]
      · simp [draw2Mid, exs, ex, ev, evAnd, tst, truE, rdOf, fstOf, lateOf, quiet, pers, look, keepV, readV, copV, truV, bopV, biV, h1]
    simp only [exs, mid, draw2_tail e1]
    simp [look, fin, okFin, finals, irDraw2]
end
theorem draw2_ok {C : CallF} {cs : List Int} {a l m : Int} (hl : 0 ≤ l) (ha : 0 ≤ a) (ha2 : a ≤ 2147483648) (hm : 0 < m) (hm2 : m < 1073741824) :
    ∃ r a' l', runFn C irDraw2 [(penD2 cs a l, true), (.int m, false)] = some (.int r, false, [(penD2 cs a' l', true), (.int m, false)]) ∧ 0 ≤ r ∧ r < m ∧ a ≤ a' ∧ a' ≤ a + 1 ∧ 0 ≤ l' := by
  by_cases h : 0 < l
  · exact ⟨_, a, _, draw2_left h hm hm2, (fmod_pos hm).1, (fmod_pos hm).2, Int.le_refl _, by omega, Int.fdiv_nonneg (by omega) (by omega)⟩
  · obtain ⟨r, l', e, h1, h2, h3⟩ := draw2_step (C := C) (cs := cs) h hl ha ha2 hm hm2
    exact ⟨r, a + 1, l', e, h1, h2, by omega, Int.le_refl _, h3⟩
def Pen2OK (d : PyData) (i : Nat) : Prop := ∃ cs a l, d = penD2 cs a l ∧ 0 ≤ l ∧ 0 ≤ a ∧ a ≤ (i : Int)
def Draw2C (f : Nat) (C : CallF) : Prop := ∀ d i (m : Int), Pen2OK d i → i ≤ 2147483648 → 0 < m → m < 1073741824 →
  ∃ r d', C f [(d, true), (.int m, false)] = some (.int r, false, [(d', true), (.int m, false)]) ∧ 0 ≤ r ∧ r < m ∧ Pen2OK d' (i + 1)
theorem draw2_lev {Γ : List Fn} {f : Nat} (hf : Γ[f]? = some irDraw2) : Lev Γ 1 (Draw2C f) := by
  refine lev_of fun k _ d i m hp hi hm hm2 => ?_
  obtain ⟨cs, a, l, rfl, h1, h2, h3⟩ := hp
  obtain ⟨r, a', l', e, e1, e2, e3, e4, e5⟩ := draw2_ok (C := call Γ k) (cs := cs) (a := a) (l := l) h1 h2 (by omega) hm hm2
  exact ⟨r, _, by rw [call_at hf]; exact e, e1, e2, cs, a', l', rfl, e5, by omega, by omega⟩
theorem Pen2OK.le {d : PyData} {i j : Nat} (h : Pen2OK d i) (hj : i ≤ j) : Pen2OK d j := by
  obtain ⟨cs, a, l, h0, h1, h2, h3⟩ := h
  exact ⟨cs, a, l, h0, h1, h2, by omega⟩
def Pen2C (f : Nat) (C : CallF) : Prop := ∀ ns : List Int, ns.length ≤ 63 → ∃ d, C f [(.list (ns.map .int), false)] = some (d, true, [(.list (ns.map .int), false)]) ∧ Pen2OK d 0
theorem pair3' {x y z : PyData} : pairUp [.str "script", x, .str "at", y, .str "great", z] [] = some [(.str "script", x), (.str "at", y), (.str "great", z)] := by rfl
theorem pen2_lev {Γ : List Fn} {f : Nat} (hf : Γ[f]? = some irPen2) : Lev Γ 1 (Pen2C f) := by
  refine lev_of fun k _ ns h => ⟨penD2 ns 0 0, ?_, ns, 0, 0, rfl, by omega, by omega, by omega⟩
  rw [call_at hf]
  simp [runFn, irPen2, exs, ex, ev, evs, evO, entry, rdOf, fstOf, lateOf, quiet, quiets, quietO, pers, look, keepV, readV, tkOf, biV, pair3', fin, okFin, finals, penD2]
end VI
set_option maxRecDepth 100000
set_option maxHeartbeats 4000000
/-! Orders and tests of the second kind of pen. -/
namespace VI
open PySem
def irTurned2_e1 (f__law_draw : Nat) : IE := (.mu .pop 2 [(.call f__law_draw [(.var 0), (.bi .len (.var 2))])])
def irTurned2 (f__law_draw : Nat) : Fn := ⟨2, 4,
   [(.asg (.nm 2) (.bi .list (.var 1))),
    (.ret (.cmpr (irTurned2_e1 f__law_draw) (.nm 3) (.hid 1) []))], [2]⟩
def irLeaf2 (f__law_draw : Nat) : Fn := ⟨2, 4,
   [(.asg (.nm 2) (.call f__law_draw [(.var 0), (.cst (.int 5))])),
    (.asg (.nm 3) (.call f__law_draw [(.var 0), (.bi .len (.var 1))])),
    (.ifs (.cmp .eq (.var 2) (.cst (.int 0))) [(.ret (.tup [(.cst (.str "yes"))]))] []),
    (.ifs (.cmp .lt (.var 2) (.cst (.int 3))) [(.ret (.tup [(.cst (.str "is")), (.var 3), (.call f__law_draw [(.var 0), (.ix (.var 1) (.var 3))])]))] []),
    (.ret (.tup [(.cst (.str "under")), (.var 3), (.bop .add (.cst (.int 1)) (.call f__law_draw [(.var 0), (.bop .sub (.ix (.var 1) (.var 3)) (.cst (.int 1)))]))]))], [2, 3]⟩
def irTest2 (f__law_draw f__law_leaf f__law_test : Nat) : Fn := ⟨3, 5,
   [(.asg (.nm 3) (.call f__law_draw [(.var 0), (.cst (.int 7))])),
    (.ifs (.orv [(.cmp .eq (.var 2) (.cst (.int 1))), (.cmp .lt (.var 3) (.cst (.int 4)))]) [(.ret (.call f__law_leaf [(.var 0), (.var 1)]))] []),
    (.asg (.nm 4) (.call f__law_test [(.var 0), (.var 1), (.bop .sub (.var 2) (.cst (.int 1)))])),
    (.ifs (.cmp .eq (.var 3) (.cst (.int 4))) [(.ret (.tup [(.cst (.str "not")), (.var 4)]))] []),
    (.ret (.tup [(.ix (.lst [(.cst (.str "both")), (.cst (.str "either"))]) (.bop .sub (.var 3) (.cst (.int 5)))), (.var 4), (.call f__law_test [(.var 0), (.var 1), (.bop .sub (.var 2) (.cst (.int 1)))])]))], [3, 4]⟩
def Turned2C (f : Nat) (C : CallF) : Prop := ∀ d i (l : List PyData), Pen2OK d i → l.length ≤ 100 → i + l.length ≤ 2147483648 →
  ∃ (r : List PyData) (d' : PyData), C f [(d, true), (.list l, true)] = some (.list r, true, [(d', true), (.list l, true)]) ∧ r.Perm l ∧ Pen2OK d' (i + l.length)
section
variable {Γ : List Fn} {f n f_draw f_leaf : Nat} {C : CallF}
theorem turned2_lev (hf : Γ[f]? = some (irTurned2 f_draw)) (hD : Lev Γ n (Draw2C f_draw)) : Lev Γ (n + 1) (Turned2C f) := by
  refine lev_of fun k hk d i l hd hl hi => ?_
  rw [call_at hf]
  obtain ⟨rs, env', b1, d', rest, rfl, b2, b3, b4⟩ := compL_inv (t := .nm 3) (own := [3]) (cs := evCs (call Γ k) []) (e := ev (call Γ k) (irTurned2_e1 f_draw)) (fun j acc env => ∃ d' rest, env = [some (d', .b), none, some (.list rest, .o), none] ∧ Pen2OK d' (i + j) ∧ (acc ++ rest).Perm l ∧ acc.length = j)
    (xs := l) (n := 0) (acc := []) (env := [some (d, .b), none, some (.list l, .o), none]) ⟨d, l, rfl, hd, List.Perm.refl _, rfl⟩ (by
      rintro j y acc env hy ⟨d2, rest, rfl, hp, hpm, hal⟩
      have hj := (List.getElem?_eq_some_iff.1 hy).1
      have hlen := hpm.length_eq
      rw [List.length_append] at hlen
      have hrl : 0 < rest.length := by omega
      obtain ⟨r, d3, c1, c2, c3, c4⟩ := hD k hk d2 _ rest.length hp (by omega) (by omega) (by omega)
      obtain ⟨m, rfl⟩ : ∃ m : Nat, r = m := ⟨r.toNat, by omega⟩
      have hm : m < rest.length := by omega
      have e1 : L2.ixN rest.length (m : Int) = some m := by
        unfold L2.ixN
        simp
        omega
      have e2 : (m : Int).natAbs < 9223372036854775808 := by omega
      have e3 : rest[m]? = some rest[m] := List.getElem?_eq_getElem hm
      refine ⟨_, true, _, rfl, rfl, fun h => (by cases h), fun _ => ⟨rest[m], false, [some (d3, .b), none, some (.list (rest.eraseIdx m), .o), some (y, .p)], ?_, sizeLine_big (n := acc.length + 1) (by omega), d3, rest.eraseIdx m, rfl, c4.le (by omega), ?_, by simp [hal]⟩⟩
      · simp [irTurned2_e1, runFn, exs, ex, ev, evs, evArgs, evO, evAnd, evOr, evIt, entry, tst, truE, rdOf, tkOf, fstOf, lateOf, quiet, quiets, quietO, pers, look, keepV, readV, takeV, copV, bopV, biV, bi2V, truV, fin, okFin, finals, callNow, argsNow, argNow, lent, back, hidOf, hid2Of, VI.bind, VI.binds, tgs, tgss, asgI, asgs, wipeE, unset, keepP, items, c1, muV, popV, e1, e3, show m < 9223372036854775808 by omega]
      · have hp2 : (rest[m] :: rest.eraseIdx m).Perm rest := by
          exact erase_perm hm
        rw [List.append_assoc]
        exact ((List.Perm.append_left acc hp2)).trans hpm)
  have hnil : rest = [] := by
    have := b3.length_eq
    rw [List.length_append] at this
    simp at b4
    have : rest.length = 0 := by omega
    exact List.eq_nil_of_length_eq_zero this
  subst hnil
  rw [List.append_nil] at b3
  refine ⟨rs, d', ?_, b3, b2.le (by simp)⟩
  simp [irTurned2, runFn, exs, ex, ev, evs, evArgs, evO, evAnd, evOr, evIt, entry, tst, truE, rdOf, tkOf, fstOf, lateOf, quiet, quiets, quietO, pers, look, keepV, readV, takeV, copV, bopV, biV, bi2V, truV, fin, okFin, finals, callNow, argsNow, argNow, lent, back, hidOf, hid2Of, VI.bind, VI.binds, tgs, tgss, asgI, asgs, wipeE, unset, keepP, items, b1]
def Leaf2C (f : Nat) (C : CallF) : Prop := ∀ d i room, Pen2OK d i → IsRoom room → i + 3 ≤ 2147483648 →
  ∃ (t : Tst) (d' : PyData), C f [(d, true), (T room, false)] = some (t.enc, false, [(d', true), (T room, false)]) ∧ t.fits room ∧ t.size = 1 ∧ t.deep = 1 ∧ Pen2OK d' (i + 3)
theorem leaf2_lev (hf : Γ[f]? = some (irLeaf2 f_draw)) (hD : Lev Γ n (Draw2C f_draw)) : Lev Γ (n + 1) (Leaf2C f) := by
  refine lev_of fun k hk d i room hd hr hi => ?_
  rw [call_at hf]
  have hD := hD k hk
  have hrl := hr.1
  have hrl2 := hr.2.1
  obtain ⟨p, d1, a1, a2, a3, a4⟩ := hD d i 5 hd (by omega) (by decide) (by decide)
  obtain ⟨t, d2, b1, b2, b3, b4⟩ := hD d1 _ room.length a4 (by omega) (by omega) (by omega)
  obtain ⟨w2, w4⟩ := nth_room hr b2 b3
  have eT := atT (l := room) b2 b3
  by_cases h0 : p = 0
  · refine ⟨.yes, d2, ?_, trivial, rfl, rfl, b4.le (by omega)⟩
    simp [irLeaf2, runFn, exs, ex, ev, evs, evArgs, evO, evAnd, evOr, evIt, entry, tst, truE, rdOf, tkOf, fstOf, lateOf, quiet, quiets, quietO, pers, look, keepV, readV, takeV, copV, bopV, biV, bi2V, truV, fin, okFin, finals, callNow, argsNow, argNow, lent, back, hidOf, hid2Of, VI.bind, VI.binds, tgs, tgss, asgI, asgs, wipeE, unset, keepP, items, a1, b1, pyEqI, pyEqS, pyEqB, pyEqSI, pyEqIS, pyEqNI, pyEqIN, pyEqNN, pyEqNil, h0, Tst.enc]
  · by_cases h3 : p < 3
    · obtain ⟨w, d3, c1, c2, c3, c4⟩ := hD d2 _ (nth room t) b4 (by omega) (by omega) (by omega)
      refine ⟨.is t w, d3, ?_, ⟨⟨b2, b3⟩, by omega, by omega⟩, rfl, rfl, c4.le (by omega)⟩
      simp [irLeaf2, runFn, exs, ex, ev, evs, evArgs, evO, evAnd, evOr, evIt, entry, tst, truE, rdOf, tkOf, fstOf, lateOf, quiet, quiets, quietO, pers, look, keepV, readV, takeV, copV, bopV, biV, bi2V, truV, fin, okFin, finals, callNow, argsNow, argNow, lent, back, hidOf, hid2Of, VI.bind, VI.binds, tgs, tgss, asgI, asgs, wipeE, unset, keepP, items, a1, b1, c1, eT, pyEqI, pyEqS, pyEqB, pyEqSI, pyEqIS, pyEqNI, pyEqIN, pyEqNN, pyEqNil, h0, h3, Tst.enc]
    · obtain ⟨w, d3, c1, c2, c3, c4⟩ := hD d2 _ (nth room t - 1) b4 (by omega) (by omega) (by omega)
      refine ⟨.under t (1 + w), d3, ?_, ⟨⟨b2, b3⟩, by omega, by omega⟩, rfl, rfl, c4.le (by omega)⟩
      simp [irLeaf2, runFn, exs, ex, ev, evs, evArgs, evO, evAnd, evOr, evIt, entry, tst, truE, rdOf, tkOf, fstOf, lateOf, quiet, quiets, quietO, pers, look, keepV, readV, takeV, copV, bopV, biV, bi2V, truV, fin, okFin, finals, callNow, argsNow, argNow, lent, back, hidOf, hid2Of, VI.bind, VI.binds, tgs, tgss, asgI, asgs, wipeE, unset, keepP, items, a1, b1, c1, eT, pyEqI, pyEqS, pyEqB, pyEqSI, pyEqIS, pyEqNI, pyEqIN, pyEqNN, pyEqNil, h0, h3, Tst.enc]
def pwT : Nat → Nat | 0 => 0 | n + 1 => 2 * pwT n + 5
def szT : Nat → Nat | 0 => 0 | n + 1 => 2 * szT n + 1
def Test2C (f dep : Nat) (C : CallF) : Prop := ∀ d i room (deep : Int), Pen2OK d i → IsRoom room → 1 ≤ deep → deep ≤ dep → i + pwT dep ≤ 2147483648 →
  ∃ (t : Tst) (d' : PyData), C f [(d, true), (T room, false), (.int deep, false)] = some (t.enc, false, [(d', true), (T room, false), (.int deep, false)]) ∧ t.fits room ∧ t.size ≤ szT dep ∧ t.deep ≤ dep ∧ Pen2OK d' (i + pwT dep)
theorem test2_lev (hf : Γ[f]? = some (irTest2 f_draw f_leaf f)) (hD : Lev Γ n (Draw2C f_draw)) (hL : Lev Γ n (Leaf2C f_leaf)) : ∀ dep, Lev Γ (n + dep) (Test2C f dep)
  | 0 => fun k _ d i room deep _ _ h1 h2 _ => absurd h1 (by omega)
  | dep + 1 => by
    refine lev_of (n := n + dep) fun k hk d i room deep hp hr hd hd2 hi => ?_
    rw [call_at hf]
    have ih := test2_lev hf hD hL dep k hk
    have hD := hD k (by omega)
    have hL := hL k (by omega)
    simp only [pwT] at hi
    simp only [pwT, szT]
    obtain ⟨p, d1, a1, a2, a3, a4⟩ := hD d i 7 hp (by omega) (by decide) (by decide)
    by_cases hA : deep = 1 ∨ p < 4
    · obtain ⟨t, d2, b1, b2, b3, b4, b5⟩ := hL d1 _ room a4 hr (by omega)
      refine ⟨t, d2, ?_, b2, by omega, by omega, b5.le (by omega)⟩
      by_cases h1 : deep = 1
      · simp [irTest2, runFn, exs, ex, ev, evs, evArgs, evO, evAnd, evOr, evIt, entry, tst, truE, rdOf, tkOf, fstOf, lateOf, quiet, quiets, quietO, pers, look, keepV, readV, takeV, copV, bopV, biV, bi2V, truV, fin, okFin, finals, callNow, argsNow, argNow, lent, back, hidOf, hid2Of, VI.bind, VI.binds, tgs, tgss, asgI, asgs, wipeE, unset, keepP, items, a1, b1, pyEqI, pyEqS, pyEqB, pyEqSI, pyEqIS, pyEqNI, pyEqIN, pyEqNN, pyEqNil, h1]
      · have h2 : p < 4 := by omega
        simp [irTest2, runFn, exs, ex, ev, evs, evArgs, evO, evAnd, evOr, evIt, entry, tst, truE, rdOf, tkOf, fstOf, lateOf, quiet, quiets, quietO, pers, look, keepV, readV, takeV, copV, bopV, biV, bi2V, truV, fin, okFin, finals, callNow, argsNow, argNow, lent, back, hidOf, hid2Of, VI.bind, VI.binds, tgs, tgss, asgI, asgs, wipeE, unset, keepP, items, a1, b1, pyEqI, pyEqS, pyEqB, pyEqSI, pyEqIS, pyEqNI, pyEqIN, pyEqNN, pyEqNil, h1, h2]
    · have h1 : ¬ deep = 1 := by omega
      have h2 : ¬ p < 4 := by omega
      obtain ⟨x, d2, b1, b2, b3, b4, b5⟩ := ih d1 _ room (deep - 1) a4 hr (by omega) (by omega) (by omega)
      by_cases h4 : p = 4
      · refine ⟨.not x, d2, ?_, b2, by simp [Tst.size]; omega, by simp [Tst.deep]; omega, b5.le (by omega)⟩
        simp [irTest2, runFn, exs, ex, ev, evs, evArgs, evO, evAnd, evOr, evIt, entry, tst, truE, rdOf, tkOf, fstOf, lateOf, quiet, quiets, quietO, pers, look, keepV, readV, takeV, copV, bopV, biV, bi2V, truV, fin, okFin, finals, callNow, argsNow, argNow, lent, back, hidOf, hid2Of, VI.bind, VI.binds, tgs, tgss, asgI, asgs, wipeE, unset, keepP, items, a1, b1, pyEqI, pyEqS, pyEqB, pyEqSI, pyEqIS, pyEqNI, pyEqIN, pyEqNN, pyEqNil, h1, h2, h4, Tst.enc]
      · obtain ⟨y, d3, c1, c2, c3, c4, c5⟩ := ih d2 _ room (deep - 1) b5 hr (by omega) (by omega) (by omega)
        have h5 : p = 5 ∨ p = 6 := by omega
        rcases h5 with rfl | rfl
        · refine ⟨.both x y, d3, ?_, ⟨b2, c2⟩, by simp [Tst.size]; omega, by simp [Tst.deep]; omega, c5.le (by omega)⟩
          simp [irTest2, runFn, exs, ex, ev, evs, evArgs, evO, evAnd, evOr, evIt, entry, tst, truE, rdOf, tkOf, fstOf, lateOf, quiet, quiets, quietO, pers, look, keepV, readV, takeV, copV, bopV, biV, bi2V, truV, fin, okFin, finals, callNow, argsNow, argNow, lent, back, hidOf, hid2Of, VI.bind, VI.binds, tgs, tgss, asgI, asgs, wipeE, unset, keepP, items, a1, b1, c1, pyEqI, pyEqS, pyEqB, pyEqSI, pyEqIS, pyEqNI, pyEqIN, pyEqNN, pyEqNil, h1, Tst.enc]
        · refine ⟨.either x y, d3, ?_, ⟨b2, c2⟩, by simp [Tst.size]; omega, by simp [Tst.deep]; omega, c5.le (by omega)⟩
          simp [irTest2, runFn, exs, ex, ev, evs, evArgs, evO, evAnd, evOr, evIt, entry, tst, truE, rdOf, tkOf, fstOf, lateOf, quiet, quiets, quietO, pers, look, keepV, readV, takeV, copV, bopV, biV, bi2V, truV, fin, okFin, finals, callNow, argsNow, argNow, lent, back, hidOf, hid2Of, VI.bind, VI.binds, tgs, tgss, asgI, asgs, wipeE, unset, keepP, items, a1, b1, c1, pyEqI, pyEqS, pyEqB, pyEqSI, pyEqIS, pyEqNI, pyEqIN, pyEqNN, pyEqNil, h1, Tst.enc]
end
end VI
set_option maxRecDepth 100000
set_option maxHeartbeats 4000000
/-! Movings of the second kind of shows. -/
namespace VI
open PySem
/-- 0:_law_room 1:_law_found 2:_law_many -/
def irSize2_b1 : List IS := [(.asg (.nm 1) (.bop .mul (.var 1) (.var 2)))]
@[simp] theorem irSize2_b1_asgs : asgs irSize2_b1 = [1] := by rfl
def irSize2 : Fn := ⟨1, 3,
   [(.asg (.nm 1) (.cst (.int 1))),
    (.for_ (.nm 2) (.hid 0) irSize2_b1),
    (.ret (.var 1))], [1, 2, 1]⟩
/-- 0:_law_pen_here 1:_law_room 2:_law_many 3:_law_trait 4:_law_worth -/
def irOrders2_e1 (f__law_turned : Nat) : IE := (.call f__law_turned [(.var 0), (.lrg1 false (.var 2))])
def irOrders2 (f__law_draw f__law_turned : Nat) : Fn := ⟨3, 5,
   [(.asg (.nm 3) (.call f__law_draw [(.var 0), (.bi .len (.var 1))])),
    (.ret (.tup [(.var 3), (.cmpr (irOrders2_e1 f__law_turned) (.nm 4) (.rng1 (.ix (.var 1) (.var 3))) [])]))], [3]⟩
/-- 0:_law_pen_here 1:_law_room 2:_law_c 3:_law_orders_here 4:_law_bent 5:_law_trait 6:_law_rows 7:_law_worth 8:_law_row 9:_law_rest 10:_law_inner 11:_law_test_here 12:_law_other -/
def irMoving2_e1 : IE := (.var 12)
def irMoving2_c1 : List IE := [(.cmp .ne (.var 12) (.var 2))]
def irMoving2 (f__law_draw f__law_test f__law_size : Nat) : Fn := ⟨5, 13,
   [(.asg (.tp [(.nm 5), (.nm 6)]) (.var 3)),
    (.asg (.nm 7) (.call f__law_draw [(.var 0), (.bi .len (.var 6))])),
    (.asg (.nm 8) (.ix (.var 6) (.var 7))),
    (.asg (.nm 9) (.sl (.var 8) (some (.bop .add (.me .index (.var 8) [(.var 2)]) (.cst (.int 1)))) none)),
    (.asg (.nm 10) (.call f__law_test [(.var 0), (.var 1), (.bop .sub (.cst (.int 3)) (.bi .int (.cmp .gt (.call f__law_size [(.var 1)]) (.cst (.int 30)))))])),
    (.asg (.nm 11) (.tup [(.cst (.str "both")), (.tup [(.cst (.str "is")), (.var 5), (.var 7)]), (.var 10)])),
    (.ifs (.var 4) [(.asg (.nm 9) (.cmpr irMoving2_e1 (.nm 12) (.hid 8) irMoving2_c1)),
    (.asg (.nm 11) (.var 10))] []),
    (.ifs (.cmp .eq (.var 9) (.lst [])) [(.ret (.cst .none))] []),
    (.ret (.tup [(.var 11), (.ix (.var 9) (.call f__law_draw [(.var 0), (.bi .len (.var 9))]))]))], [5, 6, 7, 8, 9, 10, 11, 9, 11]⟩
/-- 0:_law_pen_here 1:_law_room 2:_law_c 3:_law_orders_here 4:_law_kind 5:_law_found 6:_law_k 7:_law_one -/
def irMovings2_b1 (f__law_moving f__law_draw : Nat) : List IS := [(.asg (.nm 7) (.call f__law_moving [(.var 0), (.var 1), (.var 2), (.var 3), (.orv [(.cmp .eq (.var 4) (.cst (.int 2))), (.andv [(.cmp .eq (.var 4) (.cst (.int 3))), (.cmp .eq (.call f__law_draw [(.var 0), (.cst (.int 6))]) (.cst (.int 0)))])])])),
    (.ifs (.cmp .isnot (.var 7) (.cst .none)) [(.ex (.mu .append 5 [(.var 7)]))] [])]
@[simp] theorem irMovings2_b1_asgs {f__law_moving f__law_draw : Nat} : asgs (irMovings2_b1 f__law_moving f__law_draw) = [7] := by rfl
def irMovings2 (f__law_draw f__law_moving : Nat) : Fn := ⟨5, 8,
   [(.ifs (.cmp .eq (.var 4) (.cst (.int 1))) [(.asg (.nm 3) (.tup [(.ix (.var 3) (.cst (.int 0))), (.bop .mul (.lst [(.ix (.ix (.var 3) (.cst (.int 1))) (.cst (.int 0)))]) (.ix (.var 1) (.ix (.var 3) (.cst (.int 0)))))]))] []),
    (.asg (.nm 5) (.lst [])),
    (.for_ (.nm 6) (.rng1 (.call f__law_draw [(.var 0), (.cst (.int 5))])) (irMovings2_b1 f__law_moving f__law_draw)),
    (.ret (.var 5))], [3, 5, 6, 7]⟩
section
variable {Γ : List Fn} {f n f_draw f_test f_size f_turned f_moving : Nat} {C : CallF}
def Size2C (f : Nat) (C : CallF) : Prop := ∀ room, IsRoom room → ∃ z : Int, C f [(T room, false)] = some (.int z, false, [(T room, false)])
theorem size2_lev (hf : Γ[f]? = some irSize2) : Lev Γ 1 (Size2C f) := by
  refine lev_of (n := 0) fun k _ room hr => ?_
  rw [call_at hf]
  obtain ⟨env', h1, z, s2, rfl⟩ := forL_pre (t := .nm 2) (b := exs (call Γ k) irSize2_b1) PyData.int (fun pre env => ∃ z s2, env = [some (T room, .p), some (.int z, .p), s2]) (all := room) (ys := room) (pre := [])
    (env := [some (T room, .p), some (.int 1, .p), none]) rfl ⟨_, _, rfl⟩ (by
      rintro pre y post env ha ⟨z, s2, rfl⟩
      have hy := hr.2.2 y (by rw [ha]; simp)
      have e : y.natAbs < 18446744073709551616 := by omega
      exact ⟨_, [some (T room, .p), some (.int (z * y), .p), some (.int y, .p)], rfl, Or.inl (by simp [irSize2_b1, runFn, exs, ex, ev, evs, evArgs, evO, evAnd, evOr, evIt, entry, tst, truE, rdOf, tkOf, fstOf, lateOf, quiet, quiets, quietO, pers, look, keepV, readV, takeV, copV, bopV, biV, bi2V, truV, fin, okFin, finals, callNow, argsNow, argNow, lent, back, hidOf, hid2Of, VI.bind, VI.binds, tgs, tgss, asgI, asgs, wipeE, unset, keepP, items, e]), _, _, rfl⟩)
  refine ⟨z, ?_⟩
  simp [irSize2, runFn, exs, ex, ev, evs, evArgs, evO, evAnd, evOr, evIt, entry, tst, truE, rdOf, tkOf, fstOf, lateOf, quiet, quiets, quietO, pers, look, keepV, readV, takeV, copV, bopV, biV, bi2V, truV, fin, okFin, finals, callNow, argsNow, argNow, lent, back, hidOf, hid2Of, VI.bind, VI.binds, tgs, tgss, asgI, asgs, wipeE, unset, keepP, items, h1]
abbrev L (l : List Int) : PyData := .list (l.map .int)
structure OrdOK (room : List Int) (many t : Int) (rows : List (List Int)) : Prop where
  t0 : 0 ≤ t
  t1 : t < room.length
  l : (rows.length : Int) = nth room t
  p : ∀ r ∈ rows, r.Perm (rngI many)
def ord2D (t : Int) (rows : List (List Int)) : PyData := .tuple [.int t, .list (rows.map L)]
def Orders2C (f : Nat) (C : CallF) : Prop := ∀ d i room (many : Int), Pen2OK d i → IsRoom room → 1 ≤ many → many ≤ 6 → i + 25 ≤ 2147483648 →
  ∃ t rows d', C f [(d, true), (T room, false), (.int many, false)] = some (ord2D t rows, false, [(d', true), (T room, false), (.int many, false)]) ∧ OrdOK room many t rows ∧ Pen2OK d' (i + 25)
theorem orders2_lev (hf : Γ[f]? = some (irOrders2 f_draw f_turned)) (hD : Lev Γ n (Draw2C f_draw)) (hT : Lev Γ n (Turned2C f_turned)) : Lev Γ (n + 1) (Orders2C f) := by
  refine lev_of fun k hk d i room many hd hr h1 h6 hi => ?_
  rw [call_at hf]
  have hD := hD k hk
  have hT := hT k hk
  have hrl := hr.1
  have hrl2 := hr.2.1
  obtain ⟨t, d1, a1, a2, a3, a4⟩ := hD d i room.length hd (by omega) (by omega) (by omega)
  obtain ⟨w2, w4⟩ := nth_room hr a2 a3
  have eT := atT (l := room) a2 a3
  have z2 : rgOk 0 many = true := by simp only [rgOk, Bool.and_eq_true, decide_eq_true_eq]; omega
  have lm : (rngI many).length ≤ 6 := by simp [rngI]; omega
  obtain ⟨rows, env', b1, b2, b3, d2, rfl, b4⟩ := compL_draws (C := call Γ k) (t := .nm 4) (own := [4]) (e := ev (call Γ k) (irOrders2_e1 f_turned)) (fun (i : Nat) => PyData.int i) L (fun r => r.Perm (rngI many))
    (fun j env => ∃ d', env = [some (d', .b), some (T room, .p), some (.int many, .p), some (.int t, .p), none] ∧ Pen2OK d' (i + 1 + 6 * j)) (ys := List.range (nth room t).toNat) (acc := []) (j := 0)
    (env := [some (d1, .b), some (T room, .p), some (.int many, .p), some (.int t, .p), none]) ⟨d1, rfl, a4.le (by omega)⟩ (by
      rintro j y env hy ⟨d2, rfl, hp⟩
      have hj := (List.getElem?_eq_some_iff.1 hy).1
      simp at hj
      obtain ⟨r, d3, c1, c2, c3⟩ := hT d2 _ ((rngI many).map .int) hp (by simp; omega) (by simp; omega)
      obtain ⟨r', rfl, c4⟩ := perm_map c2 rfl
      refine ⟨_, r', true, [some (d3, .b), some (T room, .p), some (.int many, .p), some (.int t, .p), some (.int y, .p)], rfl, ?_, c4, d3, rfl, c3.le (by simp; omega)⟩
      simp [irOrders2_e1, runFn, exs, ex, ev, evs, evArgs, evO, evAnd, evOr, evIt, entry, tst, truE, rdOf, tkOf, fstOf, lateOf, quiet, quiets, quietO, pers, look, keepV, readV, takeV, copV, bopV, biV, bi2V, truV, fin, okFin, finals, callNow, argsNow, argNow, lent, back, hidOf, hid2Of, VI.bind, VI.binds, tgs, tgss, asgI, asgs, wipeE, unset, keepP, items, rgD, z2, rngD_rngI, c1]) (sizeLine_big (by simp; omega))
  simp at b1 b2 b4
  refine ⟨t, rows, d2, ?_, ⟨a2, a3, by omega, b3⟩, b4.le (by omega)⟩
  have z1 : int62 (nth room t) = true := by simp only [int62, decide_eq_true_eq]; omega
  simp [irOrders2, runFn, exs, ex, ev, evs, evArgs, evO, evAnd, evOr, evIt, entry, tst, truE, rdOf, tkOf, fstOf, lateOf, quiet, quiets, quietO, pers, look, keepV, readV, takeV, copV, bopV, biV, bi2V, truV, fin, okFin, finals, callNow, argsNow, argNow, lent, back, hidOf, hid2Of, VI.bind, VI.binds, tgs, tgss, asgI, asgs, wipeE, unset, keepP, items, a1, eT, z1, rngD0, b1, ord2D]
theorem bool_int (b : Bool) : biV .int (.bool b) = some (.int (if b then 1 else 0), false) := rfl
theorem three_less (b : Bool) : (1 : Int) ≤ 3 - (if b then 1 else 0) ∧ (3 : Int) - (if b then 1 else 0) ≤ (3 : Nat) := by cases b <;> decide
def movO : Option (Tst × Int) → PyData
  | some p => movD p
  | none => .none
theorem findD_ints {l : List Int} {c : Int} (h : c ∈ l) : ∃ j, findD (l.map .int) (.int c) = some j ∧ l[j]? = some c := by
  induction l with
  | nil => cases h
  | cons x l ih =>
    by_cases hx : x = c
    · subst hx
      exact ⟨0, by simp [findD, List.findIdx?_cons, PyData.eqv], rfl⟩
    · have hc : c ∈ l := by
        rcases List.mem_cons.1 h with h | h
        · exact absurd h.symm hx
        · exact h
      obtain ⟨j, h1, h2⟩ := ih hc
      refine ⟨j + 1, ?_, by simpa using h2⟩
      unfold findD at h1 ⊢
      rw [List.map_cons, List.findIdx?_cons, h1]
      simp [PyData.eqv, hx]
theorem mem_rngI {x n : Int} : x ∈ rngI n ↔ 0 ≤ x ∧ x < n := by
  simp only [rngI, List.mem_map, List.mem_range]
  constructor
  · rintro ⟨a, h, rfl⟩; omega
  · rintro ⟨h0, h1⟩; exact ⟨x.toNat, by omega, by omega⟩
theorem rngI_nodup (n : Int) : (rngI n).Nodup := by
  unfold rngI
  exact List.pairwise_map.2 ((List.nodup_range (n := n.toNat)).imp fun h => by omega)
theorem rngI_len (n : Int) : (rngI n).length = n.toNat := by simp [rngI]
theorem pickG {α : Type} {enc : α → PyData} {l : List α} {r : Int} (h0 : 0 ≤ r) (h1 : r < l.length) : ∃ x, x ∈ l ∧ ixV (.list (l.map enc)) (.int r) = some (enc x) := by
  obtain ⟨n, rfl⟩ : ∃ n : Nat, r = n := ⟨r.toNat, by omega⟩
  have hn : n < l.length := by omega
  exact ⟨l[n], List.getElem_mem hn, atI_of (by simp [List.getElem?_eq_getElem hn])⟩
theorem ints_depth : ∀ l : List Int, PyData.depthAll (l.map .int) = 0
  | [] => rfl
  | c :: cs => by
    rw [List.map_cons]
    simp only [PyData.depthAll, ints_depth cs]
    rfl
theorem ok64_ints (l : List Int) : ok64 (.list (l.map .int)) = true := by
  simp [ok64, PyData.canLay0, lay_ints, PyData.depth, ints_depth]
theorem index_ints {l : List Int} {c : Int} (h : c ∈ l) : ∃ j, meV .index (.list (l.map .int)) [.int c] = some (.int (j : Nat)) ∧ l[j]? = some c := by
  obtain ⟨j, h1, h2⟩ := findD_ints h
  refine ⟨j, ?_, h2⟩
  have e : ok64 (.int c) = true := rfl
  simp [meV, e, ok64_ints, h1]
theorem cut_behind {l : List Int} (j : Nat) : cutD (l.map .int) (some ((j : Int) + 1)) none = (l.drop (j + 1)).map .int := by
  have := cut_from (xs := l.map .int) (j + 1)
  rw [Int.natCast_add] at this
  rw [List.map_drop]
  exact this
theorem behind_ne {l : List Int} {c : Int} {j : Nat} (h : l[j]? = some c) (nd : l.Nodup) : ∀ x ∈ l.drop (j + 1), x ∈ l ∧ x ≠ c := by
  intro x hx
  refine ⟨List.mem_of_mem_drop hx, ?_⟩
  rintro rfl
  obtain ⟨hj, e⟩ := List.getElem?_eq_some_iff.1 h
  obtain ⟨m, hm, e2⟩ := List.getElem_of_mem hx
  rw [List.getElem_drop] at e2
  rw [List.length_drop] at hm
  have := (List.getElem_inj (h₀ := hj) (h₁ := by omega) nd).1 (e.trans e2.symm)
  omega
def Moving2C (f : Nat) (C : CallF) : Prop := ∀ d i room (many c t : Int) rows (bent : Bool), Pen2OK d i → IsRoom room → 0 ≤ c → c < many → many ≤ 6 → OrdOK room many t rows → i + 37 ≤ 2147483648 →
  ∃ (o : Option (Tst × Int)) (d' : PyData), C f [(d, true), (T room, false), (.int c, false), (ord2D t rows, false), (.bool bent, false)] = some (movO o, false, [(d', true), (T room, false), (.int c, false), (ord2D t rows, false), (.bool bent, false)]) ∧ (∀ p, o = some p → MovOK room many c p) ∧ Pen2OK d' (i + 37)
theorem moving2_lev (hf : Γ[f]? = some (irMoving2 f_draw f_test f_size)) (hD : Lev Γ n (Draw2C f_draw)) (hT : Lev Γ n (Test2C f_test 3)) (hS : Lev Γ n (Size2C f_size)) : Lev Γ (n + 1) (Moving2C f) := by
  refine lev_of fun k hk d i room many c t rows bent hd hr h0 h1 h6 ho hi => ?_
  rw [call_at hf]
  have hD := hD k hk
  have hT := hT k hk
  have hS := hS k hk
  obtain ⟨w2, w4⟩ := nth_room hr ho.t0 ho.t1
  have hol := ho.l
  obtain ⟨w, d1, a1, a2, a3, a4⟩ := hD d i rows.length hd (by omega) (by omega) (by omega)
  obtain ⟨row, hm, hrow⟩ := pickG (enc := L) a2 a3
  have hp := ho.p row hm
  have hnd : row.Nodup := hp.nodup_iff.2 (rngI_nodup _)
  have hin : ∀ x ∈ row, 0 ≤ x ∧ x < many := fun x hx => mem_rngI.1 (hp.mem_iff.1 hx)
  have hrl : row.length ≤ 6 := by rw [hp.length_eq, rngI_len]; omega
  obtain ⟨j, f1, f2⟩ := index_ints (hp.mem_iff.2 (mem_rngI.2 ⟨h0, h1⟩))
  have hcut := cut_behind (l := row) j
  have hbn := behind_ne f2 hnd
  obtain ⟨z, s1⟩ := hS room hr
  obtain ⟨q1, q2⟩ := three_less (decide (30 < z))
  obtain ⟨tt, d2, b1, b2, b3, b4, b5⟩ := hT d1 _ room _ a4 hr q1 q2 (by simp [pwT]; omega)
  simp only [szT, pwT] at b3 b5
  simp only [decide_eq_true_eq] at b1
  have hs0 : ([] : List PyData).length + row.length ≤ sizeLine := sizeLine_big (by simp; omega)
  have hcc : ∀ s0 s1 s3 s4 s5 s6 s7 s8 s9 s10 s11 : Slot, compL (.nm 12) [12] (evCs (call Γ k) irMoving2_c1) (ev (call Γ k) irMoving2_e1) (row.map .int) [] [s0, s1, some (.int c, .p), s3, s4, s5, s6, s7, s8, s9, s10, s11, none] =
      some ((row.filter fun x => decide (x ≠ c)).map .int, [s0, s1, some (.int c, .p), s3, s4, s5, s6, s7, s8, s9, s10, s11, none]) := by
    intro s0 s1 s3 s4 s5 s6 s7 s8 s9 s10 s11
    have := compL_pure (t := .nm 12) (own := [12]) (cs := evCs (call Γ k) irMoving2_c1) (e := ev (call Γ k) irMoving2_e1) PyData.int (fun x : Int => decide (x ≠ c)) PyData.int (ys := row) (acc := []) (env := [s0, s1, some (.int c, .p), s3, s4, s5, s6, s7, s8, s9, s10, s11, none]) (by
      intro y hy
      refine ⟨_, [s0, s1, some (.int c, .p), s3, s4, s5, s6, s7, s8, s9, s10, s11, some (.int y, .p)], rfl, ?_, fun _ => rfl, fun _ => ⟨false, [s0, s1, some (.int c, .p), s3, s4, s5, s6, s7, s8, s9, s10, s11, some (.int y, .p)], ?_, rfl⟩⟩
      · by_cases h : y = c <;> simp [irMoving2_c1, evCs, runFn, exs, ex, ev, evs, evArgs, evO, evAnd, evOr, evIt, entry, tst, truE, rdOf, tkOf, fstOf, lateOf, quiet, quiets, quietO, pers, look, keepV, readV, takeV, copV, bopV, biV, bi2V, truV, fin, okFin, finals, callNow, argsNow, argNow, lent, back, hidOf, hid2Of, VI.bind, VI.binds, tgs, tgss, asgI, asgs, wipeE, unset, keepP, items, pyEqI, pyEqS, pyEqB, pyEqSI, pyEqIS, pyEqNI, pyEqIN, pyEqNN, pyEqNil, h]
      · simp [irMoving2_e1, runFn, exs, ex, ev, evs, evArgs, evO, evAnd, evOr, evIt, entry, tst, truE, rdOf, tkOf, fstOf, lateOf, quiet, quiets, quietO, pers, look, keepV, readV, takeV, copV, bopV, biV, bi2V, truV, fin, okFin, finals, callNow, argsNow, argNow, lent, back, hidOf, hid2Of, VI.bind, VI.binds, tgs, tgss, asgI, asgs, wipeE, unset, keepP, items]) hs0
    rw [this]; simp
  have fin2 : ∀ (rest : List Int) (tst : Tst), (∀ x ∈ rest, x ∈ row ∧ x ≠ c) → tst.fits room → tst.size ≤ 9 → tst.deep ≤ 5 → rest ≠ [] → rest.length ≤ 6 → ∃ (x : Int × Int) (d3 : PyData), (call Γ k) f_draw [(d2, true), (.int rest.length, false)] = some (.int x.1, false, [(d3, true), (.int rest.length, false)]) ∧ ixV (L rest) (.int x.1) = some (.int x.2) ∧ MovOK room many c (tst, x.2) ∧ Pen2OK d3 (i + 37) := by
    intro rest tst r1 r2 r3 r4 r5 r6
    have hpos := List.length_pos_iff.2 r5
    obtain ⟨v, d3, c1, c2, c3, c4⟩ := hD d2 _ rest.length b5 (by omega) (by omega) (by omega)
    obtain ⟨x, x1, x2⟩ := pick c2 c3
    obtain ⟨y1, y2⟩ := r1 x x1
    exact ⟨(v, x), d3, c1, x2, ⟨r2, r4, r3, (hin x y1).1, (hin x y1).2, y2⟩, c4.le (by omega)⟩
  cases bent with
  | false =>
    have hbe : (Tst.both (.is t w) tt).fits room := ⟨⟨⟨ho.t0, ho.t1⟩, a2, by omega⟩, b2⟩
    by_cases hr0 : row.drop (j + 1) = []
    · refine ⟨none, d2, ?_, by simp, b5.le (by omega)⟩
      rw [hr0] at hcut
      simp at hcut
      simp [irMoving2, runFn, exs, ex, ev, evs, evArgs, evO, evAnd, evOr, evIt, entry, tst, truE, rdOf, tkOf, fstOf, lateOf, quiet, quiets, quietO, pers, look, keepV, readV, takeV, copV, bopV, biV, bi2V, truV, fin, okFin, finals, callNow, argsNow, argNow, lent, back, hidOf, hid2Of, VI.bind, VI.binds, tgs, tgss, asgI, asgs, wipeE, unset, keepP, items, ord2D, a1, hrow, f1, slV, hcut, s1, bool_int, b1, pyEqI, pyEqS, pyEqB, pyEqSI, pyEqIS, pyEqNI, pyEqIN, pyEqNN, pyEqNil, movO]
    · obtain ⟨⟨v, x⟩, d3, c1, c2, c3, c4⟩ := fin2 (row.drop (j + 1)) (.both (.is t w) tt) hbn hbe (by simp [Tst.size]; omega) (by simp [Tst.deep]; omega) hr0 (by rw [List.length_drop]; omega)
      refine ⟨some (.both (.is t w) tt, x), d3, ?_, fun p hp => by cases hp; exact c3, c4⟩
      have hne : (row.drop (j + 1)).isEmpty = false := by simpa using hr0
      generalize row.drop (j + 1) = rest at hcut c1 c2 hr0 hne
      simp [irMoving2, runFn, exs, ex, ev, evs, evArgs, evO, evAnd, evOr, evIt, entry, tst, truE, rdOf, tkOf, fstOf, lateOf, quiet, quiets, quietO, pers, look, keepV, readV, takeV, copV, bopV, biV, bi2V, truV, fin, okFin, finals, callNow, argsNow, argNow, lent, back, hidOf, hid2Of, VI.bind, VI.binds, tgs, tgss, asgI, asgs, wipeE, unset, keepP, items, ord2D, a1, hrow, f1, slV, hcut, s1, bool_int, b1, pyEqI, pyEqS, pyEqB, pyEqSI, pyEqIS, pyEqNI, pyEqIN, pyEqNN, pyEqNil, movO, movD, hne, c1, c2, Tst.enc]
  | true =>
    have hfn : ∀ x ∈ row.filter (fun x => decide (x ≠ c)), x ∈ row ∧ x ≠ c := by
      intro x hx
      simpa using hx
    by_cases hr0 : row.filter (fun x => decide (x ≠ c)) = []
    · refine ⟨none, d2, ?_, by simp, b5.le (by omega)⟩
      rw [hr0] at hcc
      simp at hcc
      simp [irMoving2, runFn, exs, ex, ev, evs, evArgs, evO, evAnd, evOr, evIt, entry, tst, truE, rdOf, tkOf, fstOf, lateOf, quiet, quiets, quietO, pers, look, keepV, readV, takeV, copV, bopV, biV, bi2V, truV, fin, okFin, finals, callNow, argsNow, argNow, lent, back, hidOf, hid2Of, VI.bind, VI.binds, tgs, tgss, asgI, asgs, wipeE, unset, keepP, items, ord2D, a1, hrow, f1, slV, hcut, s1, bool_int, b1, pyEqI, pyEqS, pyEqB, pyEqSI, pyEqIS, pyEqNI, pyEqIN, pyEqNN, pyEqNil, movO, hcc]
    · obtain ⟨⟨v, x⟩, d3, c1, c2, c3, c4⟩ := fin2 (row.filter (fun x => decide (x ≠ c))) tt hfn b2 (by omega) (by omega) hr0 (Nat.le_trans (List.length_filter_le _ _) hrl)
      refine ⟨some (tt, x), d3, ?_, fun p hp => by cases hp; exact c3, c4⟩
      have hne : (row.filter (fun x => decide (x ≠ c))).isEmpty = false := by cases hx : row.filter (fun x => decide (x ≠ c)) with
        | nil => exact absurd hx hr0
        | cons _ _ => rfl
      generalize row.filter (fun x => decide (x ≠ c)) = rest at hcc c1 c2 hr0 hne
      simp [irMoving2, runFn, exs, ex, ev, evs, evArgs, evO, evAnd, evOr, evIt, entry, tst, truE, rdOf, tkOf, fstOf, lateOf, quiet, quiets, quietO, pers, look, keepV, readV, takeV, copV, bopV, biV, bi2V, truV, fin, okFin, finals, callNow, argsNow, argNow, lent, back, hidOf, hid2Of, VI.bind, VI.binds, tgs, tgss, asgI, asgs, wipeE, unset, keepP, items, ord2D, a1, hrow, f1, slV, hcut, s1, bool_int, b1, pyEqI, pyEqS, pyEqB, pyEqSI, pyEqIS, pyEqNI, pyEqIN, pyEqNN, pyEqNil, movO, movD, hne, c1, c2, hcc]
def Movings2C (f : Nat) (C : CallF) : Prop := ∀ d i room (many c t kind : Int) rows, Pen2OK d i → IsRoom room → 0 ≤ c → c < many → many ≤ 6 → OrdOK room many t rows → i + 153 ≤ 2147483648 →
  ∃ (ms : List (Tst × Int)) (d' : PyData), C f [(d, true), (T room, false), (.int c, false), (ord2D t rows, false), (.int kind, false)] = some (.list (ms.map movD), true, [(d', true), (T room, false), (.int c, false), (ord2D t rows, false), (.int kind, false)]) ∧ (∀ p ∈ ms, MovOK room many c p) ∧ ms.length ≤ 4 ∧ Pen2OK d' (i + 153)
theorem movings2_turn {d : PyData} {i : Nat} {room : List Int} {many c t kind : Int} {rows : List (List Int)} {ms : List (Tst × Int)} {s6 s7 : Slot} (hD : Draw2C f_draw C) (hM : Moving2C f_moving C) (hd : Pen2OK d i) (hr : IsRoom room) (h0 : 0 ≤ c) (h1 : c < many) (h6 : many ≤ 6) (ho : OrdOK room many t rows) (hl : ms.length ≤ 100) (hi : i + 38 ≤ 2147483648) :
    ∃ d' ms' s7', exs C (irMovings2_b1 f_moving f_draw) [some (d, .b), some (T room, .p), some (.int c, .p), some (ord2D t rows, .p), some (.int kind, .p), some (.list (ms.map movD), .o), s6, s7] =
      some (.nx, [some (d', .b), some (T room, .p), some (.int c, .p), some (ord2D t rows, .p), some (.int kind, .p), some (.list ((ms ++ ms').map movD), .o), s6, s7']) ∧ (∀ p ∈ ms', MovOK room many c p) ∧ ms'.length ≤ 1 ∧ Pen2OK d' (i + 38) := by
  have hs : ms.length < sizeLine := sizeLine_big (n := ms.length + 1) (by omega)
  obtain ⟨d2, o, b2, b3, st⟩ : ∃ (d2 : PyData) (o : Option (Tst × Int)), (∀ p, o = some p → MovOK room many c p) ∧ Pen2OK d2 (i + 38) ∧
      ex C (.asg (.nm 7) (.call f_moving [(.var 0), (.var 1), (.var 2), (.var 3), (.orv [(.cmp .eq (.var 4) (.cst (.int 2))), (.andv [(.cmp .eq (.var 4) (.cst (.int 3))), (.cmp .eq (.call f_draw [(.var 0), (.cst (.int 6))]) (.cst (.int 0)))])])])) [some (d, .b), some (T room, .p), some (.int c, .p), some (ord2D t rows, .p), some (.int kind, .p), some (.list (ms.map movD), .o), s6, s7] =
      some (.nx, [some (d2, .b), some (T room, .p), some (.int c, .p), some (ord2D t rows, .p), some (.int kind, .p), some (.list (ms.map movD), .o), s6, some (movO o, .p)]) := by
    by_cases h2 : kind = 2
    · obtain ⟨o, d2, b1, b2, b3⟩ := hM d _ room many c t rows true hd hr h0 h1 h6 ho (by omega)
      exact ⟨d2, o, b2, b3.le (by omega), by subst h2; simp [runFn, exs, ex, ev, evs, evArgs, evO, evAnd, evOr, evIt, entry, tst, truE, rdOf, tkOf, fstOf, lateOf, quiet, quiets, quietO, pers, look, keepV, readV, takeV, copV, bopV, biV, bi2V, truV, fin, okFin, finals, callNow, argsNow, argNow, lent, back, hidOf, hid2Of, VI.bind, VI.binds, tgs, tgss, asgI, asgs, wipeE, unset, keepP, items, pyEqI, pyEqS, pyEqB, pyEqSI, pyEqIS, pyEqNI, pyEqIN, pyEqNN, pyEqNil, b1]⟩
    · by_cases h3 : kind = 3
      · obtain ⟨v, d1, a1, a2, a3, a4⟩ := hD d i 6 hd (by omega) (by decide) (by decide)
        obtain ⟨o, d2, b1, b2, b3⟩ := hM d1 _ room many c t rows (decide (v = 0)) a4 hr h0 h1 h6 ho (by omega)
        exact ⟨d2, o, b2, b3.le (by omega), by subst h3; simp [runFn, exs, ex, ev, evs, evArgs, evO, evAnd, evOr, evIt, entry, tst, truE, rdOf, tkOf, fstOf, lateOf, quiet, quiets, quietO, pers, look, keepV, readV, takeV, copV, bopV, biV, bi2V, truV, fin, okFin, finals, callNow, argsNow, argNow, lent, back, hidOf, hid2Of, VI.bind, VI.binds, tgs, tgss, asgI, asgs, wipeE, unset, keepP, items, pyEqI, pyEqS, pyEqB, pyEqSI, pyEqIS, pyEqNI, pyEqIN, pyEqNN, pyEqNil, a1, b1]⟩
      · obtain ⟨o, d2, b1, b2, b3⟩ := hM d _ room many c t rows false hd hr h0 h1 h6 ho (by omega)
        exact ⟨d2, o, b2, b3.le (by omega), by simp [runFn, exs, ex, ev, evs, evArgs, evO, evAnd, evOr, evIt, entry, tst, truE, rdOf, tkOf, fstOf, lateOf, quiet, quiets, quietO, pers, look, keepV, readV, takeV, copV, bopV, biV, bi2V, truV, fin, okFin, finals, callNow, argsNow, argNow, lent, back, hidOf, hid2Of, VI.bind, VI.binds, tgs, tgss, asgI, asgs, wipeE, unset, keepP, items, pyEqI, pyEqS, pyEqB, pyEqSI, pyEqIS, pyEqNI, pyEqIN, pyEqNN, pyEqNil, h2, h3, b1]⟩
  cases o with
  | none =>
    refine ⟨d2, [], some (.none, .p), ?_, by simp, by simp, b3.le (by omega)⟩
    unfold irMovings2_b1
    simp only [exs, st]
    simp [runFn, exs, ex, ev, evs, evArgs, evO, evAnd, evOr, evIt, entry, tst, truE, rdOf, tkOf, fstOf, lateOf, quiet, quiets, quietO, pers, look, keepV, readV, takeV, copV, bopV, biV, bi2V, truV, fin, okFin, finals, callNow, argsNow, argNow, lent, back, hidOf, hid2Of, VI.bind, VI.binds, tgs, tgss, asgI, asgs, wipeE, unset, keepP, items, movO]
  | some p =>
    refine ⟨d2, [p], some (movD p, .p), ?_, fun q hq => by simp at hq; subst hq; exact b2 _ rfl, by simp, b3.le (by omega)⟩
    unfold irMovings2_b1
    simp only [exs, st]
    simp [runFn, exs, ex, ev, evs, evArgs, evO, evAnd, evOr, evIt, entry, tst, truE, rdOf, tkOf, fstOf, lateOf, quiet, quiets, quietO, pers, look, keepV, readV, takeV, copV, bopV, biV, bi2V, truV, fin, okFin, finals, callNow, argsNow, argNow, lent, back, hidOf, hid2Of, VI.bind, VI.binds, tgs, tgss, asgI, asgs, wipeE, unset, keepP, items, movO, movD, muV, appendV, hs]
theorem movings2_lev (hf : Γ[f]? = some (irMovings2 f_draw f_moving)) (hD : Lev Γ n (Draw2C f_draw)) (hM : Lev Γ n (Moving2C f_moving)) : Lev Γ (n + 1) (Movings2C f) := by
  refine lev_of fun k hk d i room many c t kind rows hd hr h0 h1 h6 ho hi => ?_
  rw [call_at hf]
  have hD := hD k hk
  have hM := hM k hk
  obtain ⟨w2, w4⟩ := nth_room hr ho.t0 ho.t1
  have hol := ho.l
  have eT := atT (l := room) ho.t0 ho.t1
  obtain ⟨rows', ho', st⟩ : ∃ rows', OrdOK room many t rows' ∧ ex (call Γ k) (.ifs (.cmp .eq (.var 4) (.cst (.int 1))) [(.asg (.nm 3) (.tup [(.ix (.var 3) (.cst (.int 0))), (.bop .mul (.lst [(.ix (.ix (.var 3) (.cst (.int 1))) (.cst (.int 0)))]) (.ix (.var 1) (.ix (.var 3) (.cst (.int 0)))))]))] []) [some (d, .b), some (T room, .p), some (.int c, .p), some (ord2D t rows, .p), some (.int kind, .p), none, none, none] =
      some (.nx, [some (d, .b), some (T room, .p), some (.int c, .p), some (ord2D t rows', .p), some (.int kind, .p), none, none, none]) := by
    by_cases hk1 : kind = 1
    · obtain ⟨r, e1, e2⟩ := pickG (enc := L) (l := rows) (r := 0) (by omega) (by omega)
      refine ⟨List.replicate (nth room t).toNat r, ⟨ho.t0, ho.t1, by simp; omega, fun x hx => by rw [List.eq_of_mem_replicate hx]; exact ho.p r e1⟩, ?_⟩
      have g1 : (nth room t).natAbs < 9223372036854775808 ∧ (nth room t).toNat ≤ sizeLine := ⟨by omega, sizeLine_big (by omega)⟩
      have g2 : ixV (ord2D t rows) (.int 0) = some (.int t) := at0
      have g3 : ixV (ord2D t rows) (.int 1) = some (.list (rows.map L)) := at1
      subst hk1
      simp [runFn, exs, ex, ev, evs, evArgs, evO, evAnd, evOr, evIt, entry, tst, truE, rdOf, tkOf, fstOf, lateOf, quiet, quiets, quietO, pers, look, keepV, readV, takeV, copV, bopV, biV, bi2V, truV, fin, okFin, finals, callNow, argsNow, argNow, lent, back, hidOf, hid2Of, VI.bind, VI.binds, tgs, tgss, asgI, asgs, wipeE, unset, keepP, items, pyEqI, pyEqS, pyEqB, pyEqSI, pyEqIS, pyEqNI, pyEqIN, pyEqNN, pyEqNil, g2, g3, e2, eT, g1, ord2D]
    · exact ⟨rows, ho, by simp [runFn, exs, ex, ev, evs, evArgs, evO, evAnd, evOr, evIt, entry, tst, truE, rdOf, tkOf, fstOf, lateOf, quiet, quiets, quietO, pers, look, keepV, readV, takeV, copV, bopV, biV, bi2V, truV, fin, okFin, finals, callNow, argsNow, argNow, lent, back, hidOf, hid2Of, VI.bind, VI.binds, tgs, tgss, asgI, asgs, wipeE, unset, keepP, items, pyEqI, pyEqS, pyEqB, pyEqSI, pyEqIS, pyEqNI, pyEqIN, pyEqNN, pyEqNil, hk1]⟩
  obtain ⟨q, d1, a1, a2, a3, a4⟩ := hD d i 5 hd (by omega) (by decide) (by decide)
  obtain ⟨env1, b1, d2, ms, s6, s7, rfl, b2, b3, b4⟩ := forL_pre (t := .nm 6) (b := exs (call Γ k) (irMovings2_b1 f_moving f_draw)) (fun (i : Nat) => PyData.int i) (fun pre env => ∃ d' ms s6 s7, env = [some (d', .b), some (T room, .p), some (.int c, .p), some (ord2D t rows', .p), some (.int kind, .p), some (.list (ms.map movD), .o), s6, s7] ∧ (∀ p ∈ ms, MovOK room many c p) ∧ ms.length ≤ pre.length ∧ Pen2OK d' (i + 1 + 38 * pre.length))
    (all := List.range q.toNat) (ys := List.range q.toNat) (pre := []) (env := [some (d1, .b), some (T room, .p), some (.int c, .p), some (ord2D t rows', .p), some (.int kind, .p), some (.list [], .o), none, none]) rfl ⟨d1, [], none, none, rfl, by simp, by simp, a4⟩ (by
      rintro pre y post env ha ⟨d2, ms, s6, s7, rfl, hm, hl, hp⟩
      have hl2 := congrArg List.length ha
      simp at hl2
      obtain ⟨d3, ms', s7', e1, e2, e3, e4⟩ := movings2_turn (C := call Γ k) (kind := kind) (ms := ms) (s6 := some (.int y, .p)) (s7 := s7) hD hM hp hr h0 h1 h6 ho' (by omega) (by omega)
      refine ⟨_, _, rfl, Or.inl e1, d3, ms ++ ms', _, s7', rfl, ?_, by simp; omega, e4.le (by simp; omega)⟩
      intro p hp
      rcases List.mem_append.1 hp with h | h
      · exact hm p h
      · exact e2 p h)
  simp at b3
  refine ⟨ms, d2, ?_, b2, by omega, b4.le (by simp; omega)⟩
  have z1 : int62 q = true := by simp only [int62, decide_eq_true_eq]; omega
  have body : (irMovings2 f_draw f_moving).body = _ :: (irMovings2 f_draw f_moving).body.drop 1 := rfl
  rw [show runFn (call Γ k) (irMovings2 f_draw f_moving) [(d, true), (T room, false), (.int c, false), (ord2D t rows, false), (.int kind, false)] =
      (match exs (call Γ k) (irMovings2 f_draw f_moving).body [some (d, .b), some (T room, .p), some (.int c, .p), some (ord2D t rows, .p), some (.int kind, .p), none, none, none] with
        | some (.rt d' own, env) => fin (irMovings2 f_draw f_moving) [(d, true), (T room, false), (.int c, false), (ord2D t rows, false), (.int kind, false)] d' own env
        | some (.nx, env) => fin (irMovings2 f_draw f_moving) [(d, true), (T room, false), (.int c, false), (ord2D t rows, false), (.int kind, false)] .none false env
        | _ => none) from rfl, body]
  simp only [exs, st]
  simp [irMovings2, runFn, exs, ex, ev, evs, evArgs, evO, evAnd, evOr, evIt, entry, tst, truE, rdOf, tkOf, fstOf, lateOf, quiet, quiets, quietO, pers, look, keepV, readV, takeV, copV, bopV, biV, bi2V, truV, fin, okFin, finals, callNow, argsNow, argNow, lent, back, hidOf, hid2Of, VI.bind, VI.binds, tgs, tgss, asgI, asgs, wipeE, unset, keepP, items, a1, z1, rngD0, b1]
end
end VI
set_option maxRecDepth 100000
set_option maxHeartbeats 4000000
/-! Shows of the second kind. -/
namespace VI
open PySem
/-- 0:_law_pen_here 1:_law_room 2:_law_movings_here 3:_law_test_here 4:_law_ring 5:_law_k 6:_law_c -/
def irRound2_b1 : List IS := [(.asg (.nm 6) (.ix (.var 4) (.bop .sub (.var 5) (.cst (.int 1))))),
    (.set 2 (.var 6) (.bop .add (.lst [(.tup [(.var 3), (.ix (.var 4) (.var 5))])]) (.sl (.ix (.var 2) (.var 6)) none (some (.cst (.int 3))))))]
@[simp] theorem irRound2_b1_asgs : asgs irRound2_b1 = [6] := by rfl
def irRound2 (f__law_test f__law_size f__law_turned f__law_draw : Nat) : Fn := ⟨3, 7,
   [(.asg (.nm 3) (.call f__law_test [(.var 0), (.var 1), (.bop .sub (.cst (.int 3)) (.bi .int (.cmp .gt (.call f__law_size [(.var 1)]) (.cst (.int 30)))))])),
    (.asg (.nm 4) (.sl (.call f__law_turned [(.var 0), (.lrg1 false (.bi .len (.var 2)))]) none (some (.bop .add (.cst (.int 2)) (.call f__law_draw [(.var 0), (.bop .sub (.bi .len (.var 2)) (.cst (.int 1)))]))))),
    (.for_ (.nm 5) (.rng1 (.bi .len (.var 4))) irRound2_b1)], [3, 4, 5, 6]⟩
/-- 0:_law_pen_here 1:_law_room 2:_law_k 3:_law_many 4:_law_kind 5:_law_orders_here 6:_law_movings_here 7:_law_c 8:_law_classes 9:_law_splits 10:_law_cups -/
def irShow2_e1 (f__law_draw : Nat) : IE := (.bop .add (.cst (.int 2)) (.call f__law_draw [(.var 0), (.cst (.int 3))]))
def irShow2_e2 (f__law_movings : Nat) : IE := (.call f__law_movings [(.var 0), (.var 1), (.var 7), (.var 5), (.var 4)])
def irShow2_b1 (f__law_draw : Nat) : List IS := [(.asg (.nm 9) (.sl (.tup [(.tup [(.call f__law_draw [(.var 0), (.bi .len (.var 1))]), (.bop .add (.cst (.int 1)) (.call f__law_draw [(.var 0), (.cst (.int 8))])), (.bop .add (.cst (.int 1)) (.call f__law_draw [(.var 0), (.cst (.int 8))]))])]) none (some (.call f__law_draw [(.var 0), (.cst (.int 2))])))),
    (.ex (.mu .append 8 [(.tup [(.bi .tuple (.ix (.var 6) (.var 7))), (.var 9), (.tup [(.call f__law_draw [(.var 0), (.cst (.int 100))])])])]))]
@[simp] theorem irShow2_b1_asgs {f__law_draw : Nat} : asgs (irShow2_b1 f__law_draw) = [9] := by rfl
def irShow2 (f__law_draw f__law_orders f__law_movings f__law_round : Nat) : Fn := ⟨1, 11,
   [(.asg (.nm 1) (.bi .tuple (.cmpr (irShow2_e1 f__law_draw) (.nm 2) (.rng1 (.bop .add (.cst (.int 1)) (.call f__law_draw [(.var 0), (.cst (.int 3))]))) []))),
    (.asg (.nm 3) (.bop .add (.cst (.int 1)) (.call f__law_draw [(.var 0), (.cst (.int 6))]))),
    (.asg (.nm 4) (.call f__law_draw [(.var 0), (.cst (.int 5))])),
    (.asg (.nm 5) (.call f__law_orders [(.var 0), (.var 1), (.var 3)])),
    (.asg (.nm 6) (.cmpr (irShow2_e2 f__law_movings) (.nm 7) (.rng1 (.var 3)) [])),
    (.ifs (.andv [(.cmp .eq (.var 4) (.cst (.int 4))), (.cmp .gt (.var 3) (.cst (.int 1)))]) [(.ex (.call f__law_round [(.var 0), (.var 1), (.var 6)]))] []),
    (.asg (.nm 8) (.lst [])),
    (.for_ (.nm 7) (.rng1 (.var 3)) (irShow2_b1 f__law_draw)),
    (.asg (.nm 10) (.sl (.tup [(.tup [(.tup [(.cst (.int 0))]), (.tup [(.tup [(.cst (.str "points")), (.cst (.int 1))])]), (.tup [])])]) none (some (.call f__law_draw [(.var 0), (.cst (.int 2))])))),
    (.ret (.tup [(.var 1), (.bi .tuple (.var 8)), (.var 10)]))], [1, 3, 4, 5, 6, 8, 7, 9, 10]⟩
abbrev M (ms : List (Tst × Int)) : PyData := .list (ms.map movD)
def MssOK (room : List Int) (many : Int) (mss : List (List (Tst × Int))) : Prop := ∀ (c : Nat) ms, mss[c]? = some ms → (∀ p ∈ ms, MovOK room many c p) ∧ ms.length ≤ 4
theorem ring_at {ring : List Int} (hl : 2 ≤ ring.length) (nd : ring.Nodup) {k : Nat} (hk : k < ring.length) : ∃ x y, ixV (L ring) (.int ((k : Int) - 1)) = some (.int x) ∧ ixV (L ring) (.int k) = some (.int y) ∧ x ∈ ring ∧ y ∈ ring ∧ x ≠ y := by
  have hy : ixV (L ring) (.int k) = some (.int ring[k]) := atI_of (by simp [List.getElem?_eq_getElem hk])
  cases k with
  | zero =>
    rcases List.eq_nil_or_concat ring with h | ⟨init, x, h⟩
    · rw [h] at hl; simp at hl
    · rw [List.concat_eq_append] at h
      refine ⟨x, ring[0], ?_, hy, by rw [h]; simp, List.getElem_mem hk, ?_⟩
      · rw [h]
        have := at_last (xs := init.map .int) (x := .int x)
        simpa [L] using this
      · subst h
        simp at hl
        have h0 : 0 < init.length := by omega
        rw [List.getElem_append_left h0]
        intro e
        have := (List.nodup_append.1 nd).2.2 init[0] (List.getElem_mem h0) x (by simp)
        exact this e.symm
  | succ m =>
    have hm : m < ring.length := by omega
    refine ⟨ring[m], ring[m + 1], ?_, hy, List.getElem_mem hm, List.getElem_mem hk, ?_⟩
    · rw [show ((m + 1 : Nat) : Int) - 1 = (m : Int) by omega]
      exact atI_of (by simp [List.getElem?_eq_getElem hm])
    · intro e
      have := (List.getElem_inj (h₀ := hm) (h₁ := hk) nd).1 e
      omega
theorem setL {xs : List PyData} {m : Nat} {v : PyData} (h : m < xs.length) : setV (.list xs) (.int m) v = some (.list (xs.set m v)) := by
  have e1 : L2.ixN xs.length (m : Int) = some m := by
    unfold L2.ixN
    simp
    omega
  simp [setV, e1]
section
variable {Γ : List Fn} {f n f_draw f_test f_size f_turned f_orders f_movings f_round : Nat} {C : CallF}
theorem round2_turn {room : List Int} {many : Int} {mss : List (List (Tst × Int))} {ring : List Int} {tt : Tst} {s0 s6 : Slot} {k : Nat} (hl : 2 ≤ ring.length) (nd : ring.Nodup) (hin : ∀ x ∈ ring, 0 ≤ x ∧ x < many) (hm : (mss.length : Int) = many) (ho : MssOK room many mss) (t1 : tt.fits room) (t2 : tt.deep ≤ 5) (t3 : tt.size ≤ 9) (hk : k < ring.length) :
    ∃ mss' s6', exs C irRound2_b1 [s0, some (T room, .p), some (.list (mss.map M), .b), some (tt.enc, .p), some (L ring, .o), some (.int k, .p), s6] =
      some (.nx, [s0, some (T room, .p), some (.list (mss'.map M), .b), some (tt.enc, .p), some (L ring, .o), some (.int k, .p), s6']) ∧ mss'.length = mss.length ∧ MssOK room many mss' := by
  obtain ⟨x, y, e1, e2, hx, hy, hne⟩ := ring_at hl nd hk
  obtain ⟨x0, x1⟩ := hin x hx
  obtain ⟨y0, y1⟩ := hin y hy
  obtain ⟨a, rfl⟩ : ∃ a : Nat, x = a := ⟨x.toNat, by omega⟩
  have ha : a < mss.length := by omega
  have e3 : ixV (.list (mss.map M)) (.int a) = some (M mss[a]) := atI_of (by simp [List.getElem?_eq_getElem ha])
  obtain ⟨o1, o2⟩ := ho a _ (List.getElem?_eq_getElem ha)
  have e4 := cut_to (xs := mss[a].map movD) 3
  have e5 := setL (xs := mss.map M) (m := a) (v := M ((tt, y) :: mss[a].take 3)) (by simpa using ha)
  have e6 : 1 + min 3 (mss[a].length) ≤ sizeLine := sizeLine_big (by omega)
  refine ⟨mss.set a ((tt, y) :: mss[a].take 3), some (.int a, .p), ?_, by simp, ?_⟩
  · simp only [M, List.map_cons, movD] at e5
    simp at e4
    generalize mss[a] = ma at *
    simp [irRound2_b1, runFn, exs, ex, ev, evs, evArgs, evO, evAnd, evOr, evIt, entry, tst, truE, rdOf, tkOf, fstOf, lateOf, quiet, quiets, quietO, pers, look, keepV, readV, takeV, copV, bopV, biV, bi2V, truV, fin, okFin, finals, callNow, argsNow, argNow, lent, back, hidOf, hid2Of, VI.bind, VI.binds, tgs, tgss, asgI, asgs, wipeE, unset, keepP, items, e1, e2, e3, slV, e4, e6, movD, List.map_set]
    simp at e5
    simp [e5]
    rw [show M ((tt, y) :: List.take 3 ma) = .list (.tuple [tt.enc, .int y] :: List.take 3 (ma.map movD)) by simp [M, movD, List.map_take]]
  · intro c ms hc
    by_cases h : a = c
    · subst h
      rw [List.getElem?_set_self (by omega)] at hc
      cases hc
      refine ⟨fun p hp => ?_, by simp; omega⟩
      rcases List.mem_cons.1 hp with h | h
      · subst h; exact ⟨t1, t2, t3, y0, y1, fun e => hne e.symm⟩
      · exact o1 p (List.mem_of_mem_take h)
    · rw [List.getElem?_set_ne h] at hc
      exact ho c ms hc
def Round2C (f : Nat) (C : CallF) : Prop := ∀ d i room (mss : List (List (Tst × Int))), Pen2OK d i → IsRoom room → 2 ≤ mss.length → mss.length ≤ 6 → MssOK room mss.length mss → i + 42 ≤ 2147483648 →
  ∃ (mss' : List (List (Tst × Int))) (d' : PyData), C f [(d, true), (T room, false), (.list (mss.map M), true)] = some (.none, false, [(d', true), (T room, false), (.list (mss'.map M), true)]) ∧ mss'.length = mss.length ∧ MssOK room mss.length mss' ∧ Pen2OK d' (i + 42)
theorem round2_lev (hf : Γ[f]? = some (irRound2 f_test f_size f_turned f_draw)) (hD : Lev Γ n (Draw2C f_draw)) (hT : Lev Γ n (Test2C f_test 3)) (hS : Lev Γ n (Size2C f_size)) (hTu : Lev Γ n (Turned2C f_turned)) : Lev Γ (n + 1) (Round2C f) := by
  refine lev_of fun k hk d i room mss hd hr h2 h6 ho hi => ?_
  rw [call_at hf]
  have hD := hD k hk
  have hT := hT k hk
  have hS := hS k hk
  have hTu := hTu k hk
  obtain ⟨z, s1⟩ := hS room hr
  obtain ⟨q1, q2⟩ := three_less (decide (30 < z))
  obtain ⟨tt, d1, b1, b2, b3, b4, b5⟩ := hT d _ room _ hd hr q1 q2 (by simp [pwT]; omega)
  simp only [szT, pwT] at b3 b5
  simp only [decide_eq_true_eq] at b1
  have lm : (rngI mss.length).length ≤ 6 := by simp [rngI]; omega
  obtain ⟨r, d2, c1, c2, c3⟩ := hTu d1 _ ((rngI mss.length).map .int) b5 (by simp; omega) (by simp; omega)
  obtain ⟨r', rfl, c4⟩ := perm_map c2 rfl
  have c3 := c3.le (j := i + 41) (by simp; omega)
  obtain ⟨v, d3, g1, g2, g3, g4⟩ := hD d2 _ ((mss.length : Int) - 1) c3 (by omega) (by omega) (by omega)
  obtain ⟨m, rfl⟩ : ∃ m : Nat, v = m := ⟨v.toNat, by omega⟩
  have hr'l : r'.length = mss.length := by rw [c4.length_eq, rngI_len]; omega
  have hcut : cutD (r'.map .int) none (some (2 + (m : Int))) = (r'.take (2 + m)).map .int := by
    have := cut_to (xs := r'.map .int) (2 + m)
    rw [Int.natCast_add] at this
    rw [show (2 + (m : Int)) = ((2 : Nat) : Int) + (m : Int) from rfl, this, List.map_take]
  have hrl : (r'.take (2 + m)).length = 2 + m := by rw [List.length_take]; omega
  have hnd : (r'.take (2 + m)).Nodup := (c4.nodup_iff.2 (rngI_nodup _)).sublist (List.take_sublist _ _)
  have hin : ∀ x ∈ r'.take (2 + m), 0 ≤ x ∧ x < (mss.length : Int) := fun x hx => mem_rngI.1 (c4.mem_iff.1 (List.mem_of_mem_take hx))
  generalize r'.take (2 + m) = ring at hcut hrl hnd hin
  obtain ⟨env1, e1, mss', s5, s6, rfl, e2, e3⟩ := forL_pre (t := .nm 5) (b := exs (call Γ k) irRound2_b1) (fun (i : Nat) => PyData.int i) (fun pre env => ∃ mss' s5 s6, env = [some (d3, .b), some (T room, .p), some (.list (mss'.map M), .b), some (tt.enc, .p), some (L ring, .o), s5, s6] ∧ mss'.length = mss.length ∧ MssOK room mss.length mss')
    (all := List.range ring.length) (ys := List.range ring.length) (pre := []) (env := [some (d3, .b), some (T room, .p), some (.list (mss.map M), .b), some (tt.enc, .p), some (L ring, .o), none, none]) rfl ⟨mss, none, none, rfl, rfl, ho⟩ (by
      rintro pre y post env ha ⟨mss2, s5, s6, rfl, hl, hm⟩
      have hy : y < ring.length := by
        have : y ∈ List.range ring.length := by rw [ha]; simp
        exact List.mem_range.1 this
      obtain ⟨mss3, s6', x1, x2, x3⟩ := round2_turn (C := call Γ k) (s0 := some (d3, .b)) (s6 := s6) (ring := ring) (tt := tt) (by omega) hnd hin (by omega) hm b2 (by omega) (by omega) hy
      exact ⟨_, _, rfl, Or.inl x1, mss3, _, s6', rfl, by omega, x3⟩)
  refine ⟨mss', d3, ?_, e2, e3, g4.le (by omega)⟩
  have z2 : rgOk 0 (mss.length : Int) = true := by simp only [rgOk, Bool.and_eq_true, decide_eq_true_eq]; omega
  have z1 : int62 (ring.length : Int) = true := by simp only [int62, decide_eq_true_eq]; omega
  rw [show ((List.range ring.length).map fun (i : Nat) => PyData.int i) = (rngI ring.length).map .int by simp [rngI]] at e1
  simp [irRound2, runFn, exs, ex, ev, evs, evArgs, evO, evAnd, evOr, evIt, entry, tst, truE, rdOf, tkOf, fstOf, lateOf, quiet, quiets, quietO, pers, look, keepV, readV, takeV, copV, bopV, biV, bi2V, truV, fin, okFin, finals, callNow, argsNow, argNow, lent, back, hidOf, hid2Of, VI.bind, VI.binds, tgs, tgss, asgI, asgs, wipeE, unset, keepP, items, s1, bool_int, b1, rgD, z2, rngD_rngI, c1, g1, slV, hcut, z1, e1]
theorem show2_turn {d : PyData} {i : Nat} {room : List Int} {mss : List (List (Tst × Int))} {cls : List Cls} {s3 s4 s5 s9 : Slot} {y : Nat} (hD : Draw2C f_draw C) (hd : Pen2OK d i) (hr : IsRoom room) (hm : MssOK room mss.length mss) (hy : y < mss.length) (hl : cls.length = y) (hl6 : mss.length ≤ 6) (hi : i + 5 ≤ 2147483648) (hc : ∀ (c : Nat) cl, cls[c]? = some cl → ClsOK room mss.length c cl) :
    ∃ d' cl s9', exs C (irShow2_b1 f_draw) [some (d, .b), some (T room, .p), none, s3, s4, s5, some (.list (mss.map M), .o), some (.int y, .p), some (.list (cls.map Cls.enc), .o), s9, none] =
      some (.nx, [some (d', .b), some (T room, .p), none, s3, s4, s5, some (.list (mss.map M), .o), some (.int y, .p), some (.list ((cls ++ [cl]).map Cls.enc), .o), s9', none]) ∧ (∀ (c : Nat) x, (cls ++ [cl])[c]? = some x → ClsOK room mss.length c x) ∧ Pen2OK d' (i + 5) := by
  have hrl := hr.1
  have hrl2 := hr.2.1
  obtain ⟨t, d1, a1, a2, a3, a4⟩ := hD d i room.length hd (by omega) (by omega) (by omega)
  obtain ⟨u, d2, b1, b2, b3, b4⟩ := hD d1 _ 8 a4 (by omega) (by decide) (by decide)
  obtain ⟨v, d3, c1, c2, c3, c4⟩ := hD d2 _ 8 b4 (by omega) (by decide) (by decide)
  obtain ⟨w, d4, e1, e2, e3, e4⟩ := hD d3 _ 2 c4 (by omega) (by decide) (by decide)
  obtain ⟨p, d5, g1, g2, g3, g4⟩ := hD d4 _ 100 e4 (by omega) (by decide) (by decide)
  obtain ⟨m, rfl⟩ : ∃ m : Nat, w = m := ⟨w.toNat, by omega⟩
  have hcut := cut_to (xs := [splitD (t, 1 + u, 1 + v)]) m
  have hmy := List.getElem?_eq_getElem hy
  obtain ⟨m1, m2⟩ := hm y _ hmy
  have e5 : ixV (.list (mss.map M)) (.int y) = some (M mss[y]) := atI_of (by simp [hmy])
  have hs : cls.length < sizeLine := sizeLine_big (n := cls.length + 1) (by omega)
  refine ⟨d5, ⟨mss[y], [(t, 1 + u, 1 + v)].take m, [p]⟩, some (.tuple (([(t, 1 + u, 1 + v)].take m).map splitD), .p), ?_, ?_, g4.le (by omega)⟩
  · generalize mss[y] = ma at *
    rw [List.map_take]
    simp only [splitD, List.map_cons, List.map_nil] at hcut ⊢
    simp [irShow2_b1, runFn, exs, ex, ev, evs, evArgs, evO, evAnd, evOr, evIt, entry, tst, truE, rdOf, tkOf, fstOf, lateOf, quiet, quiets, quietO, pers, look, keepV, readV, takeV, copV, bopV, biV, bi2V, truV, fin, okFin, finals, callNow, argsNow, argNow, lent, back, hidOf, hid2Of, VI.bind, VI.binds, tgs, tgss, asgI, asgs, wipeE, unset, keepP, items, a1, b1, c1, e1, g1, slV, hcut, e5, muV, appendV, hs, Cls.enc, splitD, List.map_take]
  · intro c x hx
    by_cases h : c < cls.length
    · rw [List.getElem?_append_left h] at hx; exact hc c x hx
    · have hcl : c = cls.length := by
        have := (List.getElem?_eq_some_iff.1 hx).1
        simp at this; omega
      subst hcl
      rw [List.getElem?_append_right (by omega)] at hx
      simp at hx
      subst hx
      rw [hl]
      refine ⟨m1, m2, fun s hs => ?_, by simp; omega, by simp; omega, by simp, by simp⟩
      have := List.mem_of_mem_take hs
      simp at this
      subst this
      exact ⟨⟨a2, a3⟩, ⟨by dsimp only; omega, by dsimp only; omega⟩, by dsimp only; omega, by dsimp only; omega⟩
def Show2C (f : Nat) (C : CallF) : Prop := ∀ d i, Pen2OK d i → i + 1100 ≤ 2147483648 →
  ∃ (s : Show) (d' : PyData), C f [(d, true)] = some (s.enc, false, [(d', true)]) ∧ ShowOK s ∧ Pen2OK d' (i + 1100)
theorem show2_lev (hf : Γ[f]? = some (irShow2 f_draw f_orders f_movings f_round)) (hD : Lev Γ n (Draw2C f_draw)) (hO : Lev Γ n (Orders2C f_orders)) (hM : Lev Γ n (Movings2C f_movings)) (hR : Lev Γ n (Round2C f_round)) : Lev Γ (n + 1) (Show2C f) := by
  refine lev_of fun k hk d i hd hi => ?_
  rw [call_at hf]
  have hD := hD k hk
  have hO := hO k hk
  have hM := hM k hk
  have hR := hR k hk
  obtain ⟨q, d1, a1, a2, a3, a4⟩ := hD d i 3 hd (by omega) (by decide) (by decide)
  obtain ⟨room, env1, b1, b2, b3, d2, rfl, b4⟩ := compL_draws (C := call Γ k) (t := .nm 2) (own := [2]) (e := ev (call Γ k) (irShow2_e1 f_draw)) (fun (i : Nat) => PyData.int i) PyData.int (fun (w : Int) => 2 ≤ w ∧ w ≤ 4)
    (fun j env => ∃ d', env = [some (d', .b), none, none, none, none, none, none, none, none, none, none] ∧ Pen2OK d' (i + 1 + j)) (ys := List.range (1 + q).toNat) (acc := []) (j := 0)
    (env := [some (d1, .b), none, none, none, none, none, none, none, none, none, none]) ⟨d1, rfl, a4⟩ (by
      rintro j y env hy ⟨d2, rfl, hp⟩
      have hj := (List.getElem?_eq_some_iff.1 hy).1
      simp at hj
      obtain ⟨u, d3, c1, c2, c3, c4⟩ := hD d2 _ 3 hp (by omega) (by decide) (by decide)
      refine ⟨_, 2 + u, false, [some (d3, .b), none, some (.int y, .p), none, none, none, none, none, none, none, none], rfl, ?_, by omega, d3, rfl, c4.le (by omega)⟩
      simp [irShow2_e1, runFn, exs, ex, ev, evs, evArgs, evO, evAnd, evOr, evIt, entry, tst, truE, rdOf, tkOf, fstOf, lateOf, quiet, quiets, quietO, pers, look, keepV, readV, takeV, copV, bopV, biV, bi2V, truV, fin, okFin, finals, callNow, argsNow, argNow, lent, back, hidOf, hid2Of, VI.bind, VI.binds, tgs, tgss, asgI, asgs, wipeE, unset, keepP, items, c1]) (sizeLine_big (by simp; omega))
  simp at b1 b2 b4
  have b4 := b4.le (j := i + 4) (by omega)
  have hr : IsRoom room := ⟨by omega, by omega, b3⟩
  obtain ⟨mn, d3, c1, c2, c3, c4⟩ := hD d2 _ 6 b4 (by omega) (by decide) (by decide)
  obtain ⟨kd, d4, e1, e2, e3, e4⟩ := hD d3 _ 5 c4 (by omega) (by decide) (by decide)
  obtain ⟨t, rows, d5, g1, g2, g3⟩ := hO d4 _ room (1 + mn) e4 hr (by omega) (by omega) (by omega)
  obtain ⟨mss, env2, m1, m2, m3, d6, rfl, m4⟩ := compL_draw (C := call Γ k) (t := .nm 7) (own := [7]) (e := ev (call Γ k) (irShow2_e2 f_movings)) (fun (i : Nat) => PyData.int i) M (fun (c : Nat) (ms : List (Tst × Int)) => (∀ p ∈ ms, MovOK room (1 + mn) c p) ∧ ms.length ≤ 4)
    (fun j env => ∃ d', env = [some (d', .b), some (T room, .p), none, some (.int (1 + mn), .p), some (.int kd, .p), some (ord2D t rows, .p), none, none, none, none, none] ∧ Pen2OK d' (i + 31 + 153 * j)) (ys := List.range (1 + mn).toNat) (acc := []) (j := 0)
    (env := [some (d5, .b), some (T room, .p), none, some (.int (1 + mn), .p), some (.int kd, .p), some (ord2D t rows, .p), none, none, none, none, none]) ⟨d5, rfl, g3.le (by omega)⟩ (by
      rintro j y env hy ⟨d2, rfl, hp⟩
      obtain ⟨hj, hjy⟩ := List.getElem?_eq_some_iff.1 hy
      simp at hj hjy
      obtain ⟨ms, d3, c1, c2, c3, c4⟩ := hM d2 _ room (1 + mn) y t kd rows hp hr (by omega) (by omega) (by omega) g2 (by omega)
      refine ⟨_, ms, true, [some (d3, .b), some (T room, .p), none, some (.int (1 + mn), .p), some (.int kd, .p), some (ord2D t rows, .p), none, some (.int y, .p), none, none, none], rfl, ?_, ⟨c2, c3⟩, d3, rfl, c4.le (by omega)⟩
      simp [irShow2_e2, runFn, exs, ex, ev, evs, evArgs, evO, evAnd, evOr, evIt, entry, tst, truE, rdOf, tkOf, fstOf, lateOf, quiet, quiets, quietO, pers, look, keepV, readV, takeV, copV, bopV, biV, bi2V, truV, fin, okFin, finals, callNow, argsNow, argNow, lent, back, hidOf, hid2Of, VI.bind, VI.binds, tgs, tgss, asgI, asgs, wipeE, unset, keepP, items, c1]) (sizeLine_big (by simp; omega))
  simp at m1 m2 m4
  have m4 := m4.le (j := i + 949) (by omega)
  have hml : (mss.length : Int) = 1 + mn := by omega
  have ho : MssOK room mss.length mss := fun c ms hc => by
    have hl := (List.getElem?_eq_some_iff.1 hc).1
    rw [hml]
    exact m3 c c ms (by rw [List.getElem?_eq_getElem (by simp; omega)]; simp) hc
  obtain ⟨mss', d7, h1, h2, h3, st⟩ : ∃ (mss' : List (List (Tst × Int))) (d7 : PyData), mss'.length = mss.length ∧ MssOK room mss.length mss' ∧ Pen2OK d7 (i + 991) ∧
      ex (call Γ k) (.ifs (.andv [(.cmp .eq (.var 4) (.cst (.int 4))), (.cmp .gt (.var 3) (.cst (.int 1)))]) [(.ex (.call f_round [(.var 0), (.var 1), (.var 6)]))] []) [some (d6, .b), some (T room, .p), none, some (.int (1 + mn), .p), some (.int kd, .p), some (ord2D t rows, .p), some (.list (mss.map M), .o), none, none, none, none] =
        some (.nx, [some (d7, .b), some (T room, .p), none, some (.int (1 + mn), .p), some (.int kd, .p), some (ord2D t rows, .p), some (.list (mss'.map M), .o), none, none, none, none]) := by
    by_cases hx : kd = 4 ∧ 1 < 1 + mn
    · obtain ⟨x1, x2⟩ := hx
      obtain ⟨mss', d7, y1, y2, y3, y4⟩ := hR d6 _ room mss m4 hr (by omega) (by omega) ho (by omega)
      exact ⟨mss', d7, y2, y3, y4.le (by omega), by subst x1; simp [runFn, exs, ex, ev, evs, evArgs, evO, evAnd, evOr, evIt, entry, tst, truE, rdOf, tkOf, fstOf, lateOf, quiet, quiets, quietO, pers, look, keepV, readV, takeV, copV, bopV, biV, bi2V, truV, fin, okFin, finals, callNow, argsNow, argNow, lent, back, hidOf, hid2Of, VI.bind, VI.binds, tgs, tgss, asgI, asgs, wipeE, unset, keepP, items, pyEqI, pyEqS, pyEqB, pyEqSI, pyEqIS, pyEqNI, pyEqIN, pyEqNN, pyEqNil, x2, y1, show 0 < mn by omega]⟩
    · refine ⟨mss, d6, rfl, ho, m4.le (by omega), ?_⟩
      by_cases x1 : kd = 4
      · have x2 : ¬ 1 < 1 + mn := fun h => hx ⟨x1, h⟩
        simp [runFn, exs, ex, ev, evs, evArgs, evO, evAnd, evOr, evIt, entry, tst, truE, rdOf, tkOf, fstOf, lateOf, quiet, quiets, quietO, pers, look, keepV, readV, takeV, copV, bopV, biV, bi2V, truV, fin, okFin, finals, callNow, argsNow, argNow, lent, back, hidOf, hid2Of, VI.bind, VI.binds, tgs, tgss, asgI, asgs, wipeE, unset, keepP, items, pyEqI, pyEqS, pyEqB, pyEqSI, pyEqIS, pyEqNI, pyEqIN, pyEqNN, pyEqNil, x1, x2, show ¬ 0 < mn by omega]
      · simp [runFn, exs, ex, ev, evs, evArgs, evO, evAnd, evOr, evIt, entry, tst, truE, rdOf, tkOf, fstOf, lateOf, quiet, quiets, quietO, pers, look, keepV, readV, takeV, copV, bopV, biV, bi2V, truV, fin, okFin, finals, callNow, argsNow, argNow, lent, back, hidOf, hid2Of, VI.bind, VI.binds, tgs, tgss, asgI, asgs, wipeE, unset, keepP, items, pyEqI, pyEqS, pyEqB, pyEqSI, pyEqIS, pyEqNI, pyEqIN, pyEqNN, pyEqNil, x1]
  rw [← h1] at h2
  obtain ⟨env3, n1, d8, cls, s7, s9, rfl, n2, n3, n4⟩ := forL_pre (t := .nm 7) (b := exs (call Γ k) (irShow2_b1 f_draw)) (fun (i : Nat) => PyData.int i) (fun pre env => ∃ d' cls s7 s9, env = [some (d', .b), some (T room, .p), none, some (.int (1 + mn), .p), some (.int kd, .p), some (ord2D t rows, .p), some (.list (mss'.map M), .o), s7, some (.list (cls.map Cls.enc), .o), s9, none] ∧ cls.length = pre.length ∧ (∀ (c : Nat) cl, cls[c]? = some cl → ClsOK room mss'.length c cl) ∧ Pen2OK d' (i + 991 + 5 * pre.length))
    (all := List.range (1 + mn).toNat) (ys := List.range (1 + mn).toNat) (pre := []) (env := [some (d7, .b), some (T room, .p), none, some (.int (1 + mn), .p), some (.int kd, .p), some (ord2D t rows, .p), some (.list (mss'.map M), .o), none, some (.list [], .o), none, none]) rfl ⟨d7, [], none, none, rfl, rfl, fun c cl h => by simp at h, h3⟩ (by
      rintro pre y post env ha ⟨d2, cls, s7, s9, rfl, hl, hc, hp⟩
      have hl2 := congrArg List.length ha
      simp at hl2
      have hy : y = pre.length := by
        have h0 := congrArg (fun l => l[pre.length]?) ha
        simp at h0
        rw [List.getElem?_range (by omega)] at h0
        simp at h0
        omega
      obtain ⟨d3, cl, s9', x1, x2, x3⟩ := show2_turn (C := call Γ k) (s3 := some (.int (1 + mn), .p)) (s4 := some (.int kd, .p)) (s5 := some (ord2D t rows, .p)) (s9 := s9) (y := y) hD hp hr h2 (by omega) (by omega) (by omega) (by omega) hc
      refine ⟨_, _, rfl, Or.inl x1, d3, cls ++ [cl], _, s9', rfl, by simp [hl], x2, x3.le (by simp; omega)⟩)
  simp at n2 n4
  have n4 := n4.le (j := i + 1021) (by omega)
  obtain ⟨w, d9, o1, o2, o3, o4⟩ := hD d8 _ 2 n4 (by omega) (by decide) (by decide)
  obtain ⟨m, rfl⟩ : ∃ m : Nat, w = m := ⟨w.toNat, by omega⟩
  have hcut := cut_to (xs := [Cup.enc ⟨[0], [("points", 1)], []⟩]) m
  have hcl : (cls.length : Int) = mss'.length := by omega
  refine ⟨⟨room, cls, [(⟨[0], [("points", 1)], []⟩ : Cup)].take m⟩, d9, ?_, ⟨hr, by dsimp only; omega, by dsimp only; omega, fun j cl hj => ?_, by simp; omega, fun j cu hj => ?_⟩, o4.le (by omega)⟩
  · have z1 : int62 (1 + mn) = true := by simp only [int62, decide_eq_true_eq]; omega
    have z2 : int62 (1 + q) = true := by simp only [int62, decide_eq_true_eq]; omega
    have A : exs (call Γ k) ((irShow2 f_draw f_orders f_movings f_round).body.take 5) [some (d, .b), none, none, none, none, none, none, none, none, none, none] =
        some (.nx, [some (d6, .b), some (T room, .p), none, some (.int (1 + mn), .p), some (.int kd, .p), some (ord2D t rows, .p), some (.list (mss.map M), .o), none, none, none, none]) := by
      simp [irShow2, runFn, exs, ex, ev, evs, evArgs, evO, evAnd, evOr, evIt, entry, tst, truE, rdOf, tkOf, fstOf, lateOf, quiet, quiets, quietO, pers, look, keepV, readV, takeV, copV, bopV, biV, bi2V, truV, fin, okFin, finals, callNow, argsNow, argNow, lent, back, hidOf, hid2Of, VI.bind, VI.binds, tgs, tgss, asgI, asgs, wipeE, unset, keepP, items, a1, z2, rngD0, b1, c1, e1, g1, z1, m1]
    have B : exs (call Γ k) ((irShow2 f_draw f_orders f_movings f_round).body.drop 6) [some (d7, .b), some (T room, .p), none, some (.int (1 + mn), .p), some (.int kd, .p), some (ord2D t rows, .p), some (.list (mss'.map M), .o), none, none, none, none] =
        some (.rt (Show.enc ⟨room, cls, [(⟨[0], [("points", 1)], []⟩ : Cup)].take m⟩) false, [some (d9, .b), some (T room, .p), none, some (.int (1 + mn), .p), some (.int kd, .p), some (ord2D t rows, .p), some (.list (mss'.map M), .o), s7, some (.list (cls.map Cls.enc), .o), s9, some (.tuple (([(⟨[0], [("points", 1)], []⟩ : Cup)].take m).map Cup.enc), .p)]) := by
      simp only [Cup.enc, List.map_cons, List.map_nil, stepD] at hcut
      simp [irShow2, runFn, exs, ex, ev, evs, evArgs, evO, evAnd, evOr, evIt, entry, tst, truE, rdOf, tkOf, fstOf, lateOf, quiet, quiets, quietO, pers, look, keepV, readV, takeV, copV, bopV, biV, bi2V, truV, fin, okFin, finals, callNow, argsNow, argNow, lent, back, hidOf, hid2Of, VI.bind, VI.binds, tgs, tgss, asgI, asgs, wipeE, unset, keepP, items, z1, rngD0, n1, o1, slV, hcut, Show.enc, List.map_take, Cup.enc, stepD]
    have body : (irShow2 f_draw f_orders f_movings f_round).body = (irShow2 f_draw f_orders f_movings f_round).body.take 5 ++ (_ :: (irShow2 f_draw f_orders f_movings f_round).body.drop 6) := rfl
    rw [show runFn (call Γ k) (irShow2 f_draw f_orders f_movings f_round) [(d, true)] =
      (match exs (call Γ k) (irShow2 f_draw f_orders f_movings f_round).body [some (d, .b), none, none, none, none, none, none, none, none, none, none] with
        | some (.rt d' own, env) => fin (irShow2 f_draw f_orders f_movings f_round) [(d, true)] d' own env
        | some (.nx, env) => fin (irShow2 f_draw f_orders f_movings f_round) [(d, true)] .none false env
        | _ => none) from rfl, body, exs_app, A]
    simp only [exs, st, B]
    simp [fin, okFin, finals, look, irShow2]
  · dsimp only at hj ⊢
    rw [hcl]
    exact n3 j cl hj
  · dsimp only at hj ⊢
    have h0 : j = 0 ∧ cu = ⟨[0], [("points", 1)], []⟩ := by
      cases j with
      | zero =>
        have := List.mem_of_getElem? hj
        have := List.mem_of_mem_take this
        simp at this
        exact ⟨rfl, this⟩
      | succ j =>
        have := (List.getElem?_eq_some_iff.1 hj).1
        simp at this
        omega
    obtain ⟨rfl, rfl⟩ := h0
    refine ⟨?_, by simp, fun s hs => ?_, by simp, by simp, by simp, by simp⟩
    · dsimp only
      rw [List.singleton_sublist]
      exact mem_rngI.2 ⟨by decide, by omega⟩
    · simp at hs; subst hs; simp [measuresL]
end
end VI
set_option maxRecDepth 100000
set_option maxHeartbeats 4000000
/-! Tests, facts and leads as laws of the second kind go through them. -/
namespace VI
open PySem
/-- 0:_law_test_here 1:_law_facts 2:_law_word 3:_law_parts 4:_law_part -/
def irMeets2_e1 (f__law_meets : Nat) : IE := (.call f__law_meets [(.var 4), (.var 1)])
def irMeets2 (f__law_meets : Nat) : Fn := ⟨2, 5,
   [(.asg (.nm 2) (.ix (.var 0) (.cst (.int 0)))),
    (.ifs (.cmp .eq (.var 2) (.cst (.str "is"))) [(.ret (.cmp .eq (.ix (.var 1) (.ix (.var 0) (.cst (.int 1)))) (.ix (.var 0) (.cst (.int 2)))))] []),
    (.ifs (.cmp .eq (.var 2) (.cst (.str "under"))) [(.ret (.cmp .lt (.ix (.var 1) (.ix (.var 0) (.cst (.int 1)))) (.ix (.var 0) (.cst (.int 2)))))] []),
    (.asg (.nm 3) (.cmpr (irMeets2_e1 f__law_meets) (.nm 4) (.val (.sl (.var 0) (some (.cst (.int 1))) none)) [])),
    (.ret (.ix (.dct [(.cst (.str "yes")), (.cst (.bool true)), (.cst (.str "not")), (.cmp .eq (.var 3) (.lst [(.cst (.bool false))])), (.cst (.str "both")), (.cmp .eq (.var 3) (.lst [(.cst (.bool true)), (.cst (.bool true))])), (.cst (.str "either")), (.cmp .isin (.cst (.bool true)) (.var 3))]) (.var 2)))], [2, 3]⟩
/-- 0:_law_show_here 1:_law_c 2:_law_facts 3:_law_tos 4:_law_test_here 5:_law_to_here -/
def irTo2_e1 : IE := (.var 5)
def irTo2_c1 (f__law_meets : Nat) : List IE := [(.call f__law_meets [(.var 4), (.var 2)])]
def irTo2 (f__law_meets : Nat) : Fn := ⟨3, 6,
   [(.asg (.nm 3) (.cmpr irTo2_e1 (.tp [(.nm 4), (.nm 5)]) (.val (.ix (.ix (.ix (.var 0) (.cst (.int 1))) (.var 1)) (.cst (.int 0)))) (irTo2_c1 f__law_meets))),
    (.ret (.ix (.bop .add (.var 3) (.lst [(.cst .none)])) (.cst (.int 0))))], [3]⟩
/-- 0:_law_show_here 1:_law_facts 2:_law_tos 3:_law_c 4:_law_to_here -/
def irLeadsL2_e1 (f__law_to : Nat) : IE := (.call f__law_to [(.var 0), (.var 3), (.var 1)])
def irLeadsL2_e2 : IE := (.tup [(.var 3), (.var 4)])
def irLeadsL2_c1 : List IE := [(.cmp .isnot (.var 4) (.cst .none))]
def irLeadsL2 (f__law_to : Nat) : Fn := ⟨2, 5,
   [(.asg (.nm 2) (.cmpr (irLeadsL2_e1 f__law_to) (.nm 3) (.rng1 (.bi .len (.ix (.var 0) (.cst (.int 1))))) [])),
    (.ret (.cmpr irLeadsL2_e2 (.tp [(.nm 3), (.nm 4)]) (.enum (.var 2)) irLeadsL2_c1))], [2]⟩
/-- 0:_law_room 1:_law_found 2:_law_many 3:_law_longer 4:_law_facts 5:_law_worth -/
def irAll2_e1 : IE := (.bop .add (.var 4) (.tup [(.var 5)]))
def irAll2_b1 : List IS := [(.asg (.nm 3) (.bop .add (.var 3) (.cmpr irAll2_e1 (.nm 5) (.rng1 (.var 2)) [])))]
def irAll2_b2 : List IS := [(.asg (.nm 3) (.lst [])),
    (.for_ (.nm 4) (.hid 1) irAll2_b1),
    (.asg (.nm 1) (.var 3))]
@[simp] theorem irAll2_b1_asgs : asgs irAll2_b1 = [3] := by rfl
@[simp] theorem irAll2_b2_asgs : asgs irAll2_b2 = [3, 4, 3, 1] := by rfl
def irAll2 : Fn := ⟨1, 6,
   [(.asg (.nm 1) (.lst [(.tup [])])),
    (.for_ (.nm 2) (.hid 0) irAll2_b2),
    (.ret (.var 1))], [1, 2, 3, 4, 3, 1]⟩
/-- 0:_law_pen_here 1:_law_room 2:_law_every -/
def irSome2 (f__law_all f__law_turned : Nat) : Fn := ⟨2, 3,
   [(.asg (.nm 2) (.call f__law_all [(.var 1)])),
    (.ret (.bop .add (.lst [(.ix (.var 2) (.cst (.int 0))), (.ix (.var 2) (.neg (.cst (.int 1))))]) (.sl (.call f__law_turned [(.var 0), (.var 2)]) none (some (.cst (.int 12))))))], [2]⟩
/-- 0:show 1:facts 2:found 3:c 4:to -/
def ir_leads_b1 (f_moved : Nat) : List IS := [(.asg (.nm 4) (.call f_moved [(.var 0), (.var 3), (.var 1)])),
    (.ifs (.cmp .isnot (.var 4) (.cst .none)) [(.ex (.mu .append 2 [(.tup [(.var 3), (.var 4)])]))] [])]
@[simp] theorem ir_leads_b1_asgs {f_moved : Nat} : asgs (ir_leads_b1 f_moved) = [4] := by rfl
def ir_leads (f_moved : Nat) : Fn := ⟨2, 5,
   [(.asg (.nm 2) (.lst [])),
    (.for_ (.nm 3) (.rng1 (.bi .len (.ix (.var 0) (.cst (.int 1))))) (ir_leads_b1 f_moved)),
    (.ret (.var 2))], [2, 3, 4]⟩
theorem pl0f : pyEq (.list []) (.list [.bool false]) = some false := by rfl
theorem pl0t : pyEq (.list []) (.list [.bool true, .bool true]) = some false := by rfl
theorem pl0i : pyIn (.bool true) (.list []) = some false := by rfl
theorem pl1f (a : Bool) : pyEq (.list [.bool a]) (.list [.bool false]) = some (!a) := by cases a <;> rfl
theorem pl1t (a : Bool) : pyEq (.list [.bool a]) (.list [.bool true, .bool true]) = some false := by cases a <;> rfl
theorem pl1i (a : Bool) : pyIn (.bool true) (.list [.bool a]) = some a := by cases a <;> rfl
theorem pl2f (a b : Bool) : pyEq (.list [.bool a, .bool b]) (.list [.bool false]) = some false := by cases a <;> cases b <;> rfl
theorem pl2t (a b : Bool) : pyEq (.list [.bool a, .bool b]) (.list [.bool true, .bool true]) = some (a && b) := by cases a <;> cases b <;> rfl
theorem pl2i (a b : Bool) : pyIn (.bool true) (.list [.bool a, .bool b]) = some (a || b) := by cases a <;> cases b <;> rfl
theorem words4 {w x y z : PyData} : pairUp [.str "yes", w, .str "not", x, .str "both", y, .str "either", z] [] = some [(.str "yes", w), (.str "not", x), (.str "both", y), (.str "either", z)] := by rfl
theorem word_yes {w x y z : PyData} : ixV (.dict [(.str "yes", w), (.str "not", x), (.str "both", y), (.str "either", z)]) (.str "yes") = some w := by rfl
theorem word_not {w x y z : PyData} : ixV (.dict [(.str "yes", w), (.str "not", x), (.str "both", y), (.str "either", z)]) (.str "not") = some x := by rfl
theorem word_both {w x y z : PyData} : ixV (.dict [(.str "yes", w), (.str "not", x), (.str "both", y), (.str "either", z)]) (.str "both") = some y := by rfl
theorem word_either {w x y z : PyData} : ixV (.dict [(.str "yes", w), (.str "not", x), (.str "both", y), (.str "either", z)]) (.str "either") = some z := by rfl
theorem cut_1 (x : PyData) (xs : List PyData) : cutD (x :: xs) (some 1) none = xs := cut_from (xs := x :: xs) 1
section
variable {Γ : List Fn} {f n f_draw f_turned f_meets f_moved f_to f_all : Nat} {C : CallF}
theorem meets2_lev (hf : Γ[f]? = some (irMeets2 f)) : ∀ dep, Lev Γ dep (MeetsC f dep)
  | 0 => fun k _ t facts h _ => absurd t.deep_pos (by omega)
  | dep + 1 => by
    refine lev_of fun k hk t facts hd hl => ?_
    rw [call_at hf]
    have ih := meets2_lev hf dep k hk
    cases t with
    | yes => simp [irMeets2, runFn, exs, ex, ev, evs, evArgs, evO, evAnd, evOr, evIt, entry, tst, truE, rdOf, tkOf, fstOf, lateOf, quiet, quiets, quietO, pers, look, keepV, readV, takeV, copV, bopV, biV, bi2V, truV, fin, okFin, finals, callNow, argsNow, argNow, lent, back, hidOf, hid2Of, VI.bind, VI.binds, tgs, tgss, asgI, asgs, wipeE, unset, keepP, items, Tst.enc, pyEqI, pyEqS, pyEqB, pyEqSI, pyEqIS, pyEqNI, pyEqIN, pyEqNN, pyEqNil, Tst.meets, slV, cut_1, compL, words4, word_yes, pl0f, pl0t, pl0i]
    | is t w => simp [irMeets2, runFn, exs, ex, ev, evs, evArgs, evO, evAnd, evOr, evIt, entry, tst, truE, rdOf, tkOf, fstOf, lateOf, quiet, quiets, quietO, pers, look, keepV, readV, takeV, copV, bopV, biV, bi2V, truV, fin, okFin, finals, callNow, argsNow, argNow, lent, back, hidOf, hid2Of, VI.bind, VI.binds, tgs, tgss, asgI, asgs, wipeE, unset, keepP, items, Tst.enc, pyEq, Tst.meets, atT hl.1 hl.2]
    | under t w => simp [irMeets2, runFn, exs, ex, ev, evs, evArgs, evO, evAnd, evOr, evIt, entry, tst, truE, rdOf, tkOf, fstOf, lateOf, quiet, quiets, quietO, pers, look, keepV, readV, takeV, copV, bopV, biV, bi2V, truV, fin, okFin, finals, callNow, argsNow, argNow, lent, back, hidOf, hid2Of, VI.bind, VI.binds, tgs, tgss, asgI, asgs, wipeE, unset, keepP, items, Tst.enc, pyEqI, pyEqS, pyEqB, pyEqSI, pyEqIS, pyEqNI, pyEqIN, pyEqNN, pyEqNil, Tst.meets, atT hl.1 hl.2]
    | not a =>
      have e := ih a facts (by simp [Tst.deep] at hd; omega) hl
      simp [irMeets2, irMeets2_e1, evCs, runFn, exs, ex, ev, evs, evArgs, evO, evAnd, evOr, evIt, entry, tst, truE, rdOf, tkOf, fstOf, lateOf, quiet, quiets, quietO, pers, look, keepV, readV, takeV, copV, bopV, biV, bi2V, truV, fin, okFin, finals, callNow, argsNow, argNow, lent, back, hidOf, hid2Of, VI.bind, VI.binds, tgs, tgss, asgI, asgs, wipeE, unset, keepP, items, Tst.enc, pyEqI, pyEqS, pyEqB, pyEqSI, pyEqIS, pyEqNI, pyEqIN, pyEqNN, pyEqNil, Tst.meets, slV, cut_1, compL, words4, word_not, e, pl1f, pl1t, pl1i]
    | both a b =>
      have e1 := ih a facts (by simp [Tst.deep] at hd; omega) hl.1
      have e2 := ih b facts (by simp [Tst.deep] at hd; omega) hl.2
      simp [irMeets2, irMeets2_e1, evCs, runFn, exs, ex, ev, evs, evArgs, evO, evAnd, evOr, evIt, entry, tst, truE, rdOf, tkOf, fstOf, lateOf, quiet, quiets, quietO, pers, look, keepV, readV, takeV, copV, bopV, biV, bi2V, truV, fin, okFin, finals, callNow, argsNow, argNow, lent, back, hidOf, hid2Of, VI.bind, VI.binds, tgs, tgss, asgI, asgs, wipeE, unset, keepP, items, Tst.enc, pyEqI, pyEqS, pyEqB, pyEqSI, pyEqIS, pyEqNI, pyEqIN, pyEqNN, pyEqNil, Tst.meets, slV, cut_1, compL, words4, word_both, e1, e2, pl2f, pl2t, pl2i, show 1 < sizeLine from sl2]
    | either a b =>
      have e1 := ih a facts (by simp [Tst.deep] at hd; omega) hl.1
      have e2 := ih b facts (by simp [Tst.deep] at hd; omega) hl.2
      simp [irMeets2, irMeets2_e1, evCs, runFn, exs, ex, ev, evs, evArgs, evO, evAnd, evOr, evIt, entry, tst, truE, rdOf, tkOf, fstOf, lateOf, quiet, quiets, quietO, pers, look, keepV, readV, takeV, copV, bopV, biV, bi2V, truV, fin, okFin, finals, callNow, argsNow, argNow, lent, back, hidOf, hid2Of, VI.bind, VI.binds, tgs, tgss, asgI, asgs, wipeE, unset, keepP, items, Tst.enc, pyEqI, pyEqS, pyEqB, pyEqSI, pyEqIS, pyEqNI, pyEqIN, pyEqNN, pyEqNil, Tst.meets, slV, cut_1, compL, words4, word_either, e1, e2, pl2f, pl2t, pl2i, show 1 < sizeLine from sl2]
theorem first_ix2 {α : Type} (p : α → Bool) (g : α → PyData) : ∀ l : List α, ixV (.list ((l.filter p).map g ++ [.none])) (.int 0) = some (((l.find? p).map g).getD .none)
  | [] => at0L
  | x :: l => by
    cases h : p x with
    | true => rw [List.filter_cons_of_pos h, List.find?_cons_of_pos h]; exact at0L
    | false => rw [List.filter_cons_of_neg (by simp [h]), List.find?_cons_of_neg (by simp [h])]; exact first_ix2 p g l
theorem to2_lev (hf : Γ[f]? = some (irTo2 f_meets)) (hM : Lev Γ n (MeetsC f_meets 5)) : Lev Γ (n + 1) (MovedC f) := by
  refine lev_of fun k hk s c cl fs hs hc hl => ?_
  rw [call_at hf]
  have hM := hM k hk
  have ok := hs.c c cl hc
  have e1 : ixV s.enc (.int 1) = some (.tuple (s.cls.map Cls.enc)) := at1
  have e2 := cls_at hc
  have e3 : ixV cl.enc (.int 0) = some (.tuple (cl.movs.map movD)) := at0
  have e5 := first_ix2 (fun p : Tst × Int => p.1.meets fs) (fun p => .int p.2) cl.movs
  have e6 : ((cl.movs.find? (fun p => p.1.meets fs)).map fun p => PyData.int p.2).getD .none = intD (cl.moved fs) := by
    unfold Cls.moved
    cases cl.movs.find? (fun p => p.1.meets fs) <;> rfl
  rw [e6] at e5
  have hcc := compL_pure (t := .tp [.nm 4, .nm 5]) (own := [4, 5]) (cs := evCs (call Γ k) (irTo2_c1 f_meets)) (e := ev (call Γ k) irTo2_e1) movD (fun p : Tst × Int => p.1.meets fs) (fun p => .int p.2) (ys := cl.movs) (acc := []) (env := [some (s.enc, .p), some (.int c, .p), some (T fs, .p), none, none, none]) (by
    intro y hy
    have mo := ok.m y hy
    have m1 := hM y.1 fs mo.deep (by rw [hl]; exact mo.fits.inl)
    refine ⟨_, [some (s.enc, .p), some (.int c, .p), some (T fs, .p), none, some (y.1.enc, .p), some (.int y.2, .p)], rfl, ?_, fun _ => rfl, fun _ => ⟨false, [some (s.enc, .p), some (.int c, .p), some (T fs, .p), none, some (y.1.enc, .p), some (.int y.2, .p)], ?_, rfl⟩⟩
    · cases h : y.1.meets fs <;> rw [h] at m1 <;> simp [irTo2_c1, evCs, runFn, exs, ex, ev, evs, evArgs, evO, evAnd, evOr, evIt, entry, tst, truE, rdOf, tkOf, fstOf, lateOf, quiet, quiets, quietO, pers, look, keepV, readV, takeV, copV, bopV, biV, bi2V, truV, fin, okFin, finals, callNow, argsNow, argNow, lent, back, hidOf, hid2Of, VI.bind, VI.binds, tgs, tgss, asgI, asgs, wipeE, unset, keepP, items, m1]
    · simp [irTo2_e1, runFn, exs, ex, ev, evs, evArgs, evO, evAnd, evOr, evIt, entry, tst, truE, rdOf, tkOf, fstOf, lateOf, quiet, quiets, quietO, pers, look, keepV, readV, takeV, copV, bopV, biV, bi2V, truV, fin, okFin, finals, callNow, argsNow, argNow, lent, back, hidOf, hid2Of, VI.bind, VI.binds, tgs, tgss, asgI, asgs, wipeE, unset, keepP, items]) (sizeLine_big (by have := ok.ml; simp; omega))
  have hsz : (cl.movs.filter fun p => p.1.meets fs).length + 1 ≤ sizeLine := by
    have := List.length_filter_le (fun p : Tst × Int => p.1.meets fs) cl.movs
    have := ok.ml
    exact sizeLine_big (by omega)
  generalize (cl.movs.filter fun p => p.1.meets fs) = L at e5 hcc hsz
  generalize intD (cl.moved fs) = D at e5
  simp at hcc
  simp [irTo2, runFn, exs, ex, ev, evs, evArgs, evO, evAnd, evOr, evIt, entry, tst, truE, rdOf, tkOf, fstOf, lateOf, quiet, quiets, quietO, pers, look, keepV, readV, takeV, copV, bopV, biV, bi2V, truV, fin, okFin, finals, callNow, argsNow, argNow, lent, back, hidOf, hid2Of, VI.bind, VI.binds, tgs, tgss, asgI, asgs, wipeE, unset, keepP, items, e1, e2, e3, hcc, e5, hsz]
/-- where facts lead from each class -/
def Show.leads (s : Show) (fs : List Int) : List (Int × Int) := (List.range s.cls.length).filterMap fun c => ((s.cls[c]?).bind fun cl => cl.moved fs).map fun t => ((c : Nat), t)
def pairD (p : Int × Int) : PyData := .tuple [.int p.1, .int p.2]
def LeadsC (f : Nat) (C : CallF) : Prop := ∀ (s : Show) (fs : List Int), ShowOK s → fs.length = s.room.length → C f [(s.enc, false), (T fs, false)] = some (.list ((s.leads fs).map pairD), true, [(s.enc, false), (T fs, false)])
theorem leads_len {s : Show} {fs : List Int} : (s.leads fs).length ≤ s.cls.length := by
  unfold Show.leads
  exact Nat.le_trans (List.length_filterMap_le _ _) (by simp)
def leadO (s : Show) (fs : List Int) (c : Nat) : Option Int := (s.cls[c]?).bind fun cl => cl.moved fs
theorem range_pre {n y : Nat} {pre post : List Nat} (h : List.range n = pre ++ y :: post) : y = pre.length ∧ y < n ∧ pre = List.range y := by
  have h0 := congrArg (fun l => l[pre.length]?) h
  have hl := congrArg List.length h
  simp at hl
  simp at h0
  rw [List.getElem?_range (by omega)] at h0
  simp at h0
  refine ⟨by omega, by omega, ?_⟩
  have := congrArg (List.take pre.length) h
  rw [List.take_left] at this
  rw [← this, List.take_range]
  congr 1
  omega
theorem leads_lev (hf : Γ[f]? = some (ir_leads f_moved)) (hM : Lev Γ n (MovedC f_moved)) : Lev Γ (n + 1) (LeadsC f) := by
  refine lev_of fun k hk s fs hs hl => ?_
  rw [call_at hf]
  have hM := hM k hk
  have e1 : ixV s.enc (.int 1) = some (.tuple (s.cls.map Cls.enc)) := at1
  obtain ⟨env1, b1, s3, s4, b2⟩ := forL_pre (t := .nm 3) (b := exs (call Γ k) (ir_leads_b1 f_moved)) (fun (i : Nat) => PyData.int i) (fun pre env => ∃ s3 s4, env = [some (s.enc, .p), some (T fs, .p), some (.list ((pre.filterMap fun c => (leadO s fs c).map fun t => ((c : Int), t)).map pairD), .o), s3, s4])
    (all := List.range s.cls.length) (ys := List.range s.cls.length) (pre := []) (env := [some (s.enc, .p), some (T fs, .p), some (.list [], .o), none, none]) rfl ⟨_, _, rfl⟩ (by
      rintro pre y post env ha ⟨s3, s4, rfl⟩
      obtain ⟨r1, r2, r3⟩ := range_pre ha
      have hg := List.getElem?_eq_getElem r2
      have m := hM s y _ fs hs hg hl
      have hlo : leadO s fs y = (s.cls[y]).moved fs := by simp [leadO, hg]
      rw [← hlo] at m
      have hsz : (pre.filterMap fun c => (leadO s fs c).map fun t => ((c : Int), t)).length < sizeLine := by
        have := List.length_filterMap_le (fun c : Nat => (leadO s fs c).map fun t => ((c : Int), t)) pre
        have := hs.c6
        exact sizeLine_big (n := _ + 1) (by omega)
      cases ho : leadO s fs y with
      | none =>
        rw [ho] at m
        refine ⟨_, [some (s.enc, .p), some (T fs, .p), some (.list (((pre ++ [y]).filterMap fun c => (leadO s fs c).map fun t => ((c : Int), t)).map pairD), .o), some (.int y, .p), some (.none, .p)], rfl, Or.inl ?_, _, _, rfl⟩
        simp [ir_leads_b1, runFn, exs, ex, ev, evs, evArgs, evO, evAnd, evOr, evIt, entry, tst, truE, rdOf, tkOf, fstOf, lateOf, quiet, quiets, quietO, pers, look, keepV, readV, takeV, copV, bopV, biV, bi2V, truV, fin, okFin, finals, callNow, argsNow, argNow, lent, back, hidOf, hid2Of, VI.bind, VI.binds, tgs, tgss, asgI, asgs, wipeE, unset, keepP, items, m, intD, List.filterMap_append, ho]
      | some t =>
        rw [ho] at m
        refine ⟨_, [some (s.enc, .p), some (T fs, .p), some (.list (((pre ++ [y]).filterMap fun c => (leadO s fs c).map fun t => ((c : Int), t)).map pairD), .o), some (.int y, .p), some (.int t, .p)], rfl, Or.inl ?_, _, _, rfl⟩
        simp [ir_leads_b1, runFn, exs, ex, ev, evs, evArgs, evO, evAnd, evOr, evIt, entry, tst, truE, rdOf, tkOf, fstOf, lateOf, quiet, quiets, quietO, pers, look, keepV, readV, takeV, copV, bopV, biV, bi2V, truV, fin, okFin, finals, callNow, argsNow, argNow, lent, back, hidOf, hid2Of, VI.bind, VI.binds, tgs, tgss, asgI, asgs, wipeE, unset, keepP, items, m, intD, List.filterMap_append, ho, muV, appendV, hsz, pairD])
  have z1 : int62 (s.cls.length : Int) = true := by have := hs.c6; simp only [int62, decide_eq_true_eq]; omega
  have e2 : ((List.range s.cls.length).filterMap fun c => (leadO s fs c).map fun t => ((c : Int), t)) = s.leads fs := rfl
  rw [e2] at b2
  subst b2
  simp [ir_leads, runFn, exs, ex, ev, evs, evArgs, evO, evAnd, evOr, evIt, entry, tst, truE, rdOf, tkOf, fstOf, lateOf, quiet, quiets, quietO, pers, look, keepV, readV, takeV, copV, bopV, biV, bi2V, truV, fin, okFin, finals, callNow, argsNow, argNow, lent, back, hidOf, hid2Of, VI.bind, VI.binds, tgs, tgss, asgI, asgs, wipeE, unset, keepP, items, e1, z1, rngD0, b1]
theorem leadsL2_lev (hf : Γ[f]? = some (irLeadsL2 f_to)) (hM : Lev Γ n (MovedC f_to)) : Lev Γ (n + 1) (LeadsC f) := by
  refine lev_of fun k hk s fs hs hl => ?_
  rw [call_at hf]
  have hM := hM k hk
  have h6 := hs.c6
  have e1 : ixV s.enc (.int 1) = some (.tuple (s.cls.map Cls.enc)) := at1
  have c1 := compL_map (C := call Γ k) (t := .nm 3) (own := [3]) (e := ev (call Γ k) (irLeadsL2_e1 f_to)) (fun (i : Nat) => PyData.int i) (fun (i : Nat) => intD (leadO s fs i)) (ys := List.range s.cls.length) (acc := [])
    (env := [some (s.enc, .p), some (T fs, .p), none, none, none]) (fun y hy => by
      have r2 := List.mem_range.1 hy
      have hg := List.getElem?_eq_getElem r2
      have m := hM s y _ fs hs hg hl
      have hlo : leadO s fs y = (s.cls[y]).moved fs := by simp [leadO, hg]
      rw [← hlo] at m
      refine ⟨_, false, [some (s.enc, .p), some (T fs, .p), none, some (.int y, .p), none], rfl, ?_, rfl⟩
      simp [irLeadsL2_e1, runFn, exs, ex, ev, evs, evArgs, evO, evAnd, evOr, evIt, entry, tst, truE, rdOf, tkOf, fstOf, lateOf, quiet, quiets, quietO, pers, look, keepV, readV, takeV, copV, bopV, biV, bi2V, truV, fin, okFin, finals, callNow, argsNow, argNow, lent, back, hidOf, hid2Of, VI.bind, VI.binds, tgs, tgss, asgI, asgs, wipeE, unset, keepP, items, m]) (sizeLine_big (by simp; omega))
  have he : enumD ((List.range s.cls.length).map fun i => intD (leadO s fs i)) = (List.range s.cls.length).map fun i => PyData.tuple [.int (i : Nat), intD (leadO s fs i)] := by
    apply List.ext_getElem
    · simp [enumD]
    · intro i h1 h2
      simp [enumD]
  have c2 := compL_pure (t := .tp [.nm 3, .nm 4]) (own := [3, 4]) (cs := evCs (call Γ k) irLeadsL2_c1) (e := ev (call Γ k) irLeadsL2_e2) (fun (i : Nat) => PyData.tuple [.int i, intD (leadO s fs i)]) (fun i => (leadO s fs i).isSome) (fun (i : Nat) => PyData.tuple [.int i, intD (leadO s fs i)]) (ys := List.range s.cls.length) (acc := [])
    (env := [some (s.enc, .p), some (T fs, .p), some (.list ((List.range s.cls.length).map fun i => intD (leadO s fs i)), .p), none, none]) (fun y hy => by
      refine ⟨_, [some (s.enc, .p), some (T fs, .p), some (.list ((List.range s.cls.length).map fun i => intD (leadO s fs i)), .p), some (.int y, .p), some (intD (leadO s fs y), .p)], rfl, ?_, fun _ => rfl, fun _ => ⟨false, [some (s.enc, .p), some (T fs, .p), some (.list ((List.range s.cls.length).map fun i => intD (leadO s fs i)), .p), some (.int y, .p), some (intD (leadO s fs y), .p)], ?_, rfl⟩⟩
      · cases leadO s fs y <;> simp [irLeadsL2_c1, evCs, runFn, exs, ex, ev, evs, evArgs, evO, evAnd, evOr, evIt, entry, tst, truE, rdOf, tkOf, fstOf, lateOf, quiet, quiets, quietO, pers, look, keepV, readV, takeV, copV, bopV, biV, bi2V, truV, fin, okFin, finals, callNow, argsNow, argNow, lent, back, hidOf, hid2Of, VI.bind, VI.binds, tgs, tgss, asgI, asgs, wipeE, unset, keepP, items, intD]
      · simp [irLeadsL2_e2, runFn, exs, ex, ev, evs, evArgs, evO, evAnd, evOr, evIt, entry, tst, truE, rdOf, tkOf, fstOf, lateOf, quiet, quiets, quietO, pers, look, keepV, readV, takeV, copV, bopV, biV, bi2V, truV, fin, okFin, finals, callNow, argsNow, argNow, lent, back, hidOf, hid2Of, VI.bind, VI.binds, tgs, tgss, asgI, asgs, wipeE, unset, keepP, items]) (sizeLine_big (by simp; omega))
  have e2 : ((List.range s.cls.length).filter fun i => (leadO s fs i).isSome).map (fun (i : Nat) => PyData.tuple [.int i, intD (leadO s fs i)]) = (s.leads fs).map pairD := by
    show _ = ((List.range s.cls.length).filterMap fun c => (leadO s fs c).map fun t => ((c : Int), t)).map pairD
    generalize List.range s.cls.length = l
    induction l with
    | nil => rfl
    | cons x l ih =>
      cases ho : leadO s fs x with
      | none =>
        rw [List.filter_cons_of_neg (by simp [ho]), List.filterMap_cons_none (by simp [ho]), ih]
      | some t =>
        rw [List.filter_cons_of_pos (by simp [ho]), List.filterMap_cons_some (b := ((x : Int), t)) (by simp [ho]), List.map_cons, List.map_cons, ih]
        simp [ho, intD, pairD]
  rw [e2] at c2
  have z1 : int62 (s.cls.length : Int) = true := by simp only [int62, decide_eq_true_eq]; omega
  simp at c1
  simp at c2
  simp [irLeadsL2, runFn, exs, ex, ev, evs, evArgs, evO, evAnd, evOr, evIt, entry, tst, truE, rdOf, tkOf, fstOf, lateOf, quiet, quiets, quietO, pers, look, keepV, readV, takeV, copV, bopV, biV, bi2V, truV, fin, okFin, finals, callNow, argsNow, argNow, lent, back, hidOf, hid2Of, VI.bind, VI.binds, tgs, tgss, asgI, asgs, wipeE, unset, keepP, items, e1, z1, rngD0, c1, he, c2]
theorem ext_comp2 {s0 s1 s3 : Slot} {w : Int} {facts : List Int} (hw : w ≤ 4) (hl : facts.length ≤ 1000) : compL (.nm 5) [5] (evCs C []) (ev C irAll2_e1) (rngD 0 w) [] [s0, s1, some (.int w, .p), s3, some (T facts, .p), none] =
    some ((ext w facts).map T, [s0, s1, some (.int w, .p), s3, some (T facts, .p), none]) := ext_comp hw hl
theorem af_inner2 {found : List (List Int)} {s0 s4 : Slot} {w : Int} (h1 : 0 ≤ w) (h2 : w ≤ 4) (hl : ∀ f ∈ found, f.length ≤ 1000) (hf : found.length ≤ 64) : ∃ s4',
    forL (.nm 4) (exs C irAll2_b1) (found.map T) [s0, none, some (.int w, .p), some (.list [], .o), s4, none] =
      some (.nx, [s0, none, some (.int w, .p), some (TL (found.flatMap (ext w)), .o), s4', none]) := by
  obtain ⟨env', h3, s4', h4⟩ := forL_pre (t := .nm 4) (b := exs C irAll2_b1) T (fun pre env => ∃ s4, env = [s0, none, some (.int w, .p), some (TL (pre.flatMap (ext w)), .o), s4, none]) (all := found) (ys := found) (pre := [])
    (env := [s0, none, some (.int w, .p), some (.list [], .o), s4, none]) rfl ⟨s4, rfl⟩ (by
      rintro pre y post env ha ⟨s4, rfl⟩
      have hy : y ∈ found := by rw [ha]; simp
      have hc := ext_comp2 (C := C) (s0 := s0) (s1 := none) (s3 := some (TL (pre.flatMap (ext w)), .p)) h2 (hl y hy)
      have hi : int62 w = true := by simp [int62]; omega
      have hpl : pre.length + 1 ≤ 64 := by
        have := congrArg List.length ha
        simp at this; omega
      have hsz : (pre.flatMap (ext w)).length + (ext w y).length ≤ sizeLine := by
        rw [flatMap_len, ext_len]
        have : pre.length * w.toNat ≤ 64 * 4 := Nat.mul_le_mul (by omega) (by omega)
        exact sizeLine_big (by omega)
      refine ⟨_, _, rfl, Or.inl ?_, some (T y, .p), rfl⟩
      simp only [List.length_flatMap] at hsz
      simp [irAll2_b1, runFn, exs, ex, ev, evs, evArgs, evO, evAnd, evOr, evIt, entry, tst, truE, rdOf, tkOf, fstOf, lateOf, quiet, quiets, quietO, pers, look, keepV, readV, takeV, copV, bopV, biV, bi2V, truV, fin, okFin, finals, callNow, argsNow, argNow, lent, back, hidOf, hid2Of, VI.bind, VI.binds, tgs, tgss, asgI, asgs, wipeE, unset, keepP, items, hi, hc, hsz, List.flatMap_append])
  exact ⟨s4', by rw [h3, h4]⟩
theorem all2_lev (hf : Γ[f]? = some irAll2) : Lev Γ 1 (AllFactsC f) := by
  refine lev_of (n := 0) fun k _ room hr => ?_
  rw [call_at hf]
  obtain ⟨env', h1, s2, s3, s4, h2⟩ := forL_pre (t := .nm 2) (b := exs (call Γ k) irAll2_b2) PyData.int (fun pre env => ∃ s2 s3 s4, env = [some (T room, .p), some (TL (allFacts pre), .o), s2, s3, s4, none]) (all := room) (ys := room) (pre := [])
    (env := [some (T room, .p), some (.list [.tuple []], .o), none, none, none, none]) rfl ⟨_, _, _, rfl⟩ (by
      rintro pre y post env ha ⟨s2, s3, s4, rfl⟩
      obtain ⟨h1, h2, h3, h4, h5⟩ := af_prefix hr ha
      obtain ⟨s4', hi⟩ := af_inner2 (C := call Γ k) (s0 := some (T room, .p)) (s4 := s4) h1 h2 h4 h3
      refine ⟨_, [some (T room, .p), some (TL (allFacts (pre ++ [y])), .o), some (.int y, .p), none, s4', none], rfl, Or.inl ?_, _, _, _, rfl⟩
      rw [allFacts_snoc]
      simp [irAll2_b2, runFn, exs, ex, ev, evs, evArgs, evO, evAnd, evOr, evIt, entry, tst, truE, rdOf, tkOf, fstOf, lateOf, quiet, quiets, quietO, pers, look, keepV, readV, takeV, copV, bopV, biV, bi2V, truV, fin, okFin, finals, callNow, argsNow, argNow, lent, back, hidOf, hid2Of, VI.bind, VI.binds, tgs, tgss, asgI, asgs, wipeE, unset, keepP, items, hi])
  subst h2
  simp [irAll2, runFn, exs, ex, ev, evs, evArgs, evO, evAnd, evOr, evIt, entry, tst, truE, rdOf, tkOf, fstOf, lateOf, quiet, quiets, quietO, pers, look, keepV, readV, takeV, copV, bopV, biV, bi2V, truV, fin, okFin, finals, callNow, argsNow, argNow, lent, back, hidOf, hid2Of, VI.bind, VI.binds, tgs, tgss, asgI, asgs, wipeE, unset, keepP, items, h1]
theorem allFacts_ne {room : List Int} (hr : IsRoom room) : allFacts room ≠ [] := by
  have := by_rooms (p := fun r => !(allFacts r).isEmpty) (by decide +kernel) hr
  intro h
  rw [h] at this
  cases this
def Some2C (f : Nat) (C : CallF) : Prop := ∀ d i room, Pen2OK d i → IsRoom room → i + 64 ≤ 2147483648 →
  ∃ (fs : List (List Int)) (d' : PyData), C f [(d, true), (T room, false)] = some (TL fs, true, [(d', true), (T room, false)]) ∧ (∀ x ∈ fs, x ∈ allFacts room) ∧ fs.length ≤ 14 ∧ Pen2OK d' (i + 64)
theorem some2_lev (hf : Γ[f]? = some (irSome2 f_all f_turned)) (hA : Lev Γ n (AllFactsC f_all)) (hT : Lev Γ n (Turned2C f_turned)) : Lev Γ (n + 1) (Some2C f) := by
  refine lev_of fun k hk d i room hd hr hi => ?_
  rw [call_at hf]
  have hA := hA k hk room hr
  have hT := hT k hk
  have h64 := allFacts_64 hr (List.prefix_refl room)
  have hne := allFacts_ne hr
  generalize hall : allFacts room = all at *
  have hpos := List.length_pos_iff.2 hne
  obtain ⟨x, hx, e1⟩ := pickG (enc := T) (l := all) (r := 0) (by decide) (by omega)
  obtain ⟨y, hy, e2⟩ : ∃ y ∈ all, ixV (.list (all.map T)) (.int (-1)) = some (T y) := by
    rcases List.eq_nil_or_concat all with h | ⟨init, y, h⟩
    · exact absurd h hne
    · rw [List.concat_eq_append] at h
      subst h
      refine ⟨y, by simp, ?_⟩
      rw [List.map_append, List.map_cons, List.map_nil]
      exact at_last
  obtain ⟨r, d1, a1, a2, a3⟩ := hT d i (all.map T) hd (by simp; omega) (by simp; omega)
  obtain ⟨r', rfl, a4⟩ := perm_map a2 rfl
  have hcut := cut_to (xs := r'.map T) 12
  rw [← List.map_take] at hcut
  have hl : (r'.take 12).length ≤ 12 := by rw [List.length_take]; omega
  have hin : ∀ z ∈ r'.take 12, z ∈ all := fun z hz => a4.mem_iff.1 (List.mem_of_mem_take hz)
  generalize r'.take 12 = r2 at hcut hl hin
  have hsz : 1 + 1 + r2.length ≤ sizeLine := sizeLine_big (by omega)
  refine ⟨x :: y :: r2, d1, ?_, fun z hz => ?_, by simp; omega, a3.le (by simp; omega)⟩
  · simp at hcut hsz
    simp [irSome2, runFn, exs, ex, ev, evs, evArgs, evO, evAnd, evOr, evIt, entry, tst, truE, rdOf, tkOf, fstOf, lateOf, quiet, quiets, quietO, pers, look, keepV, readV, takeV, copV, bopV, biV, bi2V, truV, fin, okFin, finals, callNow, argsNow, argNow, lent, back, hidOf, hid2Of, VI.bind, VI.binds, tgs, tgss, asgI, asgs, wipeE, unset, keepP, items, hA, e1, e2, a1, slV, hcut, hsz]
  · simp at hz
    rcases hz with h | h | h
    · subst h; exact hx
    · subst h; exact hy
    · exact hin z h
end
end VI
set_option maxRecDepth 100000
set_option maxHeartbeats 4000000
/-! is_test of anything; small things with one odd part. -/
namespace VI
open PySem
structure Pl (n d : Nat) (x : PyData) : Prop where
  s : smallD x = true
  d : x.depth ≤ d
  c : cntD x ≤ n
  h : x.hasDict = false
  l : hasList x = false
structure W (n d : Nat) (x : PyData) : Prop where
  s : smallD x = true
  d : x.depth ≤ d
  c : cntD x ≤ n
  h : (!x.hasDict || !hasList x) = true
theorem Pl.mono {n d n' d' : Nat} {x : PyData} (g : Pl n d x) (hn : n ≤ n') (hd : d ≤ d') : Pl n' d' x := ⟨g.s, Nat.le_trans g.d hd, Nat.le_trans g.c hn, g.h, g.l⟩
theorem W.mono {n d n' d' : Nat} {x : PyData} (g : W n d x) (hn : n ≤ n') (hd : d ≤ d') : W n' d' x := ⟨g.s, Nat.le_trans g.d hd, Nat.le_trans g.c hn, g.h⟩
theorem Pl.w {n d : Nat} {x : PyData} (g : Pl n d x) : W n d x := ⟨g.s, g.d, g.c, by rw [g.h]; rfl⟩
theorem W.shown {n d : Nat} {x : PyData} (g : W n d x) (hn : n ≤ 100000) (hd : d ≤ 64) : x.showable = true ∧ x.depth ≤ 64 ∧ x.shown.length ≤ sizeLine ∧ (x.hasDict = false ∨ hasList x = false) := by
  obtain ⟨a1, a2, a3⟩ := repr_facts g.s (Nat.le_trans g.d hd) (Nat.le_trans g.c hn)
  exact ⟨a1, a2, a3, by simpa using g.h⟩
theorem pl_int {i : Int} (h : i.natAbs ≤ 1000000) : Pl 1 0 (.int i) := by
  obtain ⟨a, b, c, d⟩ := good_int h
  exact ⟨a, b, c, d, rfl⟩
theorem pl_bool (b : Bool) : Pl 1 0 (.bool b) := ⟨rfl, by simp [PyData.depth], by simp [cntD], rfl, rfl⟩
theorem pl_none : Pl 1 0 .none := ⟨rfl, by simp [PyData.depth], by simp [cntD], rfl, rfl⟩
theorem pl_str {n : Nat} {x : Str} (h : strB n x = true) : Pl (1 + n) 0 (.str x) := by
  obtain ⟨a, b, c, d⟩ := good_str h
  exact ⟨a, b, c, d, rfl⟩
def Mx (n d : Nat) (o : PyData) (xs : List PyData) : Prop := ∀ x ∈ xs, Pl n d x ∨ x = o
theorem mx_facts {n d : Nat} {o : PyData} (ho : W n d o) : ∀ {xs : List PyData}, Mx n d o xs → smallA xs = true ∧ PyData.depthAll xs ≤ d ∧ cntA xs ≤ n * xs.length ∧ (PyData.hasDictAll xs = true → o.hasDict = true) ∧ (hasListA xs = true → hasList o = true)
  | [], _ => ⟨rfl, by simp [PyData.depthAll], by simp [cntA], by simp [PyData.hasDictAll], by simp [hasListA]⟩
  | x :: xs, h => by
    obtain ⟨h1, h2, h3, h4, h5⟩ := mx_facts ho (xs := xs) fun y hy => h y (List.mem_cons_of_mem _ hy)
    have e : n * (xs.length + 1) = n * xs.length + n := by rw [Nat.mul_add, Nat.mul_one]
    rcases h x (List.mem_cons_self ..) with ⟨p1, p2, p3, p4, p5⟩ | rfl
    · refine ⟨by simp only [smallA, p1, h1]; rfl, by simp only [PyData.depthAll]; omega, by simp only [cntA, List.length_cons]; omega, ?_, ?_⟩
      · simpa [PyData.hasDictAll, p4] using h4
      · simpa [hasListA, p5] using h5
    · refine ⟨by simp only [smallA, ho.s, h1]; rfl, by have := ho.d; simp only [PyData.depthAll]; omega, by have := ho.c; simp only [cntA, List.length_cons]; omega, ?_, ?_⟩
      · intro z
        simp only [PyData.hasDictAll, Bool.or_eq_true] at z
        exact z.elim id h4
      · intro z
        simp only [hasListA, Bool.or_eq_true] at z
        exact z.elim id h5
theorem mx_tup {n d : Nat} {o : PyData} (ho : W n d o) {xs : List PyData} (h : Mx n d o xs) : W (1 + n * xs.length) (d + 1) (.tuple xs) := by
  obtain ⟨h1, h2, h3, h4, h5⟩ := mx_facts ho h
  refine ⟨by simpa only [smallD] using h1, by simp only [PyData.depth]; omega, by simp only [cntD]; omega, ?_⟩
  have h6 := ho.h
  simp only [PyData.hasDict, hasList]
  cases e1 : PyData.hasDictAll xs with
  | false => rfl
  | true =>
    cases e2 : hasListA xs with
    | false => rfl
    | true => rw [h4 e1, h5 e2] at h6; exact absurd h6 (by decide)
theorem pl_facts {n d : Nat} : ∀ {xs : List PyData}, (∀ x ∈ xs, Pl n d x) → smallA xs = true ∧ PyData.depthAll xs ≤ d ∧ cntA xs ≤ n * xs.length ∧ PyData.hasDictAll xs = false ∧ hasListA xs = false
  | [], _ => ⟨rfl, by simp [PyData.depthAll], by simp [cntA], by simp [PyData.hasDictAll], by simp [hasListA]⟩
  | x :: xs, h => by
    obtain ⟨h1, h2, h3, h4, h5⟩ := pl_facts (xs := xs) fun y hy => h y (List.mem_cons_of_mem _ hy)
    have e : n * (xs.length + 1) = n * xs.length + n := by rw [Nat.mul_add, Nat.mul_one]
    obtain ⟨p1, p2, p3, p4, p5⟩ := h x (List.mem_cons_self ..)
    exact ⟨by simp only [smallA, p1, h1]; rfl, by simp only [PyData.depthAll]; omega, by simp only [cntA, List.length_cons]; omega, by simp [PyData.hasDictAll, p4, h4], by simp [hasListA, p5, h5]⟩
theorem pl_tup {n d : Nat} {xs : List PyData} (h : ∀ x ∈ xs, Pl n d x) : Pl (1 + n * xs.length) (d + 1) (.tuple xs) := by
  obtain ⟨h1, h2, h3, h4, h5⟩ := pl_facts h
  exact ⟨by simpa only [smallD] using h1, by simp only [PyData.depth]; omega, by simp only [cntD]; omega, by simpa only [PyData.hasDict] using h4, by simpa only [hasList] using h5⟩
theorem pl_lst {n d : Nat} {xs : List PyData} (h : ∀ x ∈ xs, Pl n d x) : W (1 + n * xs.length) (d + 1) (.list xs) := by
  obtain ⟨h1, h2, h3, h4, h5⟩ := pl_facts h
  exact ⟨by simpa only [smallD] using h1, by simp only [PyData.depth]; omega, by simp only [cntD]; omega, by simp [PyData.hasDict, h4]⟩
theorem lay_small {s : Str} (h : smallD (.str s) = true) : (PyData.str s).canLay0 = true := by
  simp only [smallD, List.all_eq_true, decide_eq_true_eq] at h
  simp only [PyData.canLay0, PyData.strOk, Array.all_eq_true, decide_eq_true_eq]
  intro i hi
  have := h s.cps[i] (by simp)
  omega
theorem inw (s : Str) (l : List String) (h : smallD (.str s) = true) : pyIn (.str s) (.tuple (l.map fun x => .str (Str.ofString x))) = some ((l.map Str.ofString).contains s) := by
  have h1 : ∀ l : List String, PyData.canLayAll0 (l.map fun s => .str (Str.ofString s)) = true := by
    intro l
    induction l with
    | nil => rfl
    | cons a l ih => simp only [List.map_cons, PyData.canLayAll0, ih, Bool.and_true]; exact strOk_of a
  have h2 : ((l.map fun x => PyData.str (Str.ofString x)).any fun z => PyData.eqv z (.str s)) = (l.map Str.ofString).contains s := by
    induction l with
    | nil => rfl
    | cons b l ih =>
      rw [List.map_cons, List.any_cons, ih, List.map_cons, List.contains_cons]
      congr 1
      simp only [PyData.eqv]
      exact Bool.beq_comm
  simp [pyIn, h1, lay_small h, h2, PyData.depth]
theorem inw2 (s : Str) (a b : String) (h : smallD (.str s) = true) : pyIn (.str s) (.tuple [.str (Str.ofString a), .str (Str.ofString b)]) = some (decide (s = Str.ofString a) || decide (s = Str.ofString b)) := by
  have := inw s [a, b] h
  simpa [List.contains_cons, Bool.beq_eq_decide_eq] using this
theorem inw3 (s : Str) (a b c : String) (h : smallD (.str s) = true) : pyIn (.str s) (.tuple [.str (Str.ofString a), .str (Str.ofString b), .str (Str.ofString c)]) = some (decide (s = Str.ofString a) || (decide (s = Str.ofString b) || decide (s = Str.ofString c))) := by
  have := inw s [a, b, c] h
  simpa [List.contains_cons, Bool.beq_eq_decide_eq] using this
def yesS : Str := "yes"
def notS : Str := "not"
def bothS : Str := "both"
def eitherS : Str := "either"
def wordLen (w : Str) : Int := if w = "yes" then 1 else if w = "not" then 2 else if w = "both" then 3 else if w = "either" then 3 else 0
def frameD (room : List Int) : PyData → Bool
  | .tuple (.str w :: r) => if w = "is" ∨ w = "under" then (match r with
      | [a, b] => isFrom a 0 (room.length - 1) && (match a with
        | .int t => isFrom b (if w = "under" then 1 else 0) (nth room t - 1)
        | _ => false)
      | _ => false) else decide ((r.length : Int) + 1 = wordLen w)
  | _ => false
def partsD : PyData → List PyData
  | .tuple (.str w :: r) => if w = "not" ∨ w = "both" ∨ w = "either" then r else []
  | _ => []
def countD (room : List Int) : Nat → PyData → Nat
  | 0, _ => 10
  | d + 1, x => if frameD room x then 1 + ((partsD x).map (countD room d)).sum else 10
def PartsC (f : Nat) (C : CallF) : Prop := ∀ w r, smallD (.str w) = true → C f [(.tuple (.str w :: r), false)] = some (.list (partsD (.tuple (.str w :: r))), true, [(.tuple (.str w :: r), false)])
def FrameC (f : Nat) (C : CallF) : Prop := ∀ room x, smallD x = true → C f [(T room, false), (x, false)] = some (.bool (frameD room x), false, [(T room, false), (x, false)])
def CountC (f dep : Nat) (C : CallF) : Prop := ∀ room x (deep : Nat), smallD x = true → deep ≤ dep → C f [(T room, false), (x, false), (.int deep, false)] = some (.int (countD room deep x), false, [(T room, false), (x, false), (.int deep, false)])
def isTestD (room : List Int) (x : PyData) : Bool := decide (countD room 5 x ≤ 9)
def IsTestC (f : Nat) (C : CallF) : Prop := ∀ room x, smallD x = true → C f [(T room, false), (x, false)] = some (.bool (isTestD room x), false, [(T room, false), (x, false)])
theorem small_head {w : Str} {r : List PyData} (h : smallD (.tuple (.str w :: r)) = true) : smallD (.str w) = true ∧ smallA r = true := by
  simpa only [smallD, smallA, Bool.and_eq_true] using h
theorem small_mem : ∀ {r : List PyData}, smallA r = true → ∀ x ∈ r, smallD x = true
  | y :: r, h, x, hx => by
    simp only [smallA, Bool.and_eq_true] at h
    rcases List.mem_cons.1 hx with e | e
    · subst e; exact h.1
    · exact small_mem h.2 x e
theorem getW {w : Str} : meV .get (.dict wordsD) [.str w, .int 0] = some (.int (wordLen w)) := by
  have hk : ∀ a b : Str, (keyOf (.str a) = some (Sum.inr b)) ↔ b = a := fun a b => by simp [keyOf, eq_comm]
  simp only [meV, keyOf, wordsD, getD, wordLen]
  by_cases h1 : w = "yes"
  · subst h1; simp
  · have h1' : ¬ ("yes" : Str) = w := fun e => h1 e.symm
    by_cases h2 : w = "not"
    · subst h2; simp [h1', h1]
    · have h2' : ¬ ("not" : Str) = w := fun e => h2 e.symm
      by_cases h3 : w = "both"
      · subst h3; simp [h1', h2', h1, h2]
      · have h3' : ¬ ("both" : Str) = w := fun e => h3 e.symm
        by_cases h4 : w = "either"
        · subst h4; simp [h1', h2', h3', h1, h2, h3]
        · have h4' : ¬ ("either" : Str) = w := fun e => h4 e.symm
          simp [h1, h2, h3, h4, h1', h2', h3', h4']
section
variable {Γ : List Fn} {f n f_is_row f_is_from f_is_frame f_parts_of f_count_parts : Nat} {C : CallF}
theorem parts_lev (hf : Γ[f]? = some ir_parts_of) : Lev Γ 1 (PartsC f) := by
  refine lev_of (n := 0) fun k _ w r hw => ?_
  rw [call_at hf]
  have hx : ixV (.tuple (.str w :: r)) (.int 0) = some (.str w) := at0
  have hi := inw3 w "not" "both" "either" hw
  unfold partsD
  by_cases h1 : w = "not" <;> by_cases h2 : w = "both" <;> by_cases h3 : w = "either" <;> simp [h1, h2, h3] at hi <;> simp [ir_parts_of, runFn, exs, ex, ev, evs, evArgs, evO, evAnd, evOr, evIt, entry, tst, truE, rdOf, tkOf, fstOf, lateOf, quiet, quiets, quietO, pers, look, keepV, readV, takeV, copV, bopV, biV, bi2V, truV, fin, okFin, finals, callNow, argsNow, argNow, lent, back, hidOf, hid2Of, VI.bind, VI.binds, tgs, tgss, asgI, asgs, wipeE, unset, keepP, items, hx, hi, slV, cut_1, h1, h2, h3]
theorem isFrom_int {x : PyData} {lo hi : Int} (h : isFrom x lo hi = true) : ∃ i : Int, x = .int i ∧ lo ≤ i ∧ i ≤ hi := by
  unfold isFrom at h
  split at h
  · rename_i i
    simp at h
    exact ⟨i, rfl, h⟩
  · cases h
theorem bool_i (b : Bool) : biV .int (.bool b) = some (.int (if b = true then 1 else 0), false) := by cases b <;> rfl
theorem frame_lev (hf : Γ[f]? = some (ir_is_frame f_is_row f_is_from)) (h1 : Lev Γ n (IsRowC f_is_row)) (h2 : Lev Γ n (IsFromC f_is_from)) : Lev Γ (n + 1) (FrameC f) := by
  refine lev_of fun k hk room x hx => ?_
  rw [call_at hf]
  have e1 := h1 k hk
  have e2 := h2 k hk
  unfold IsRowC at e1
  unfold IsFromC at e2
  by_cases hrow : isRow x 1 3 = true
  · have htup : ∃ l, x = .tuple l ∧ 1 ≤ l.length ∧ l.length ≤ 3 := by
      unfold isRow at hrow
      split at hrow
      · rename_i l
        simp at hrow
        exact ⟨l, rfl, by omega, by omega⟩
      · cases hrow
    obtain ⟨l, rfl, l1, l3⟩ := htup
    cases l with
    | nil => simp at l1
    | cons h r =>
      have hh : ixV (.tuple (h :: r)) (.int 0) = some h := at0
      cases h with
      | str w =>
        obtain ⟨hw, hr⟩ := small_head hx
        have hi := inw2 w "is" "under" hw
        simp only [List.length_cons] at l3
        by_cases hiu : w = "is" ∨ w = "under"
        · have hi' : pyIn (.str w) (.tuple [.str "is", .str "under"]) = some true := by
            rw [hi]; simpa using hiu
          by_cases hl : r.length = 2
          · obtain ⟨a, b, rfl⟩ : ∃ a b, r = [a, b] := by
              match r, hl with
              | [a, b], _ => exact ⟨a, b, rfl⟩
            have ha : ixV (.tuple [.str w, a, b]) (.int 1) = some a := at1
            have hb : ixV (.tuple [.str w, a, b]) (.int 2) = some b := at2
            by_cases hfa : isFrom a 0 (room.length - 1) = true
            · obtain ⟨t, rfl, t0, t1⟩ := isFrom_int hfa
              have eT := atT (l := room) t0 (by omega)
              rcases hiu with hu | hu
              · subst hu
                have hne : ¬ (Str.ofString "is" = Str.ofString "under") := by rw [ofString_inj]; decide
                simp [ir_is_frame, runFn, exs, ex, ev, evs, evArgs, evO, evAnd, evOr, evIt, entry, tst, truE, rdOf, tkOf, fstOf, lateOf, quiet, quiets, quietO, pers, look, keepV, readV, takeV, copV, bopV, biV, bi2V, truV, fin, okFin, finals, callNow, argsNow, argNow, lent, back, hidOf, hid2Of, VI.bind, VI.binds, tgs, tgss, asgI, asgs, wipeE, unset, keepP, items, e1, hrow, hh, isiV, tyIs, tyN, hi', e2, hfa, ha, hb, pyEqI, pyEqS, pyEqB, pyEqSI, pyEqIS, pyEqNI, pyEqIN, pyEqNN, pyEqNil, eT, frameD, hne]
              · subst hu
                simp [ir_is_frame, runFn, exs, ex, ev, evs, evArgs, evO, evAnd, evOr, evIt, entry, tst, truE, rdOf, tkOf, fstOf, lateOf, quiet, quiets, quietO, pers, look, keepV, readV, takeV, copV, bopV, biV, bi2V, truV, fin, okFin, finals, callNow, argsNow, argNow, lent, back, hidOf, hid2Of, VI.bind, VI.binds, tgs, tgss, asgI, asgs, wipeE, unset, keepP, items, e1, hrow, hh, isiV, tyIs, tyN, hi', e2, hfa, ha, hb, pyEqI, pyEqS, pyEqB, pyEqSI, pyEqIS, pyEqNI, pyEqIN, pyEqNN, pyEqNil, eT, frameD]
            · have hfa' : isFrom a 0 (room.length - 1) = false := by simpa using hfa
              simp [ir_is_frame, runFn, exs, ex, ev, evs, evArgs, evO, evAnd, evOr, evIt, entry, tst, truE, rdOf, tkOf, fstOf, lateOf, quiet, quiets, quietO, pers, look, keepV, readV, takeV, copV, bopV, biV, bi2V, truV, fin, okFin, finals, callNow, argsNow, argNow, lent, back, hidOf, hid2Of, VI.bind, VI.binds, tgs, tgss, asgI, asgs, wipeE, unset, keepP, items, e1, hrow, hh, isiV, tyIs, tyN, hi', e2, hfa', ha, hb, pyEqI, pyEqS, pyEqB, pyEqSI, pyEqIS, pyEqNI, pyEqIN, pyEqNN, pyEqNil, frameD, hiu]
          · have hne : ¬ ((r.length : Int) + 1 = 3) := by omega
            have hfr : frameD room (.tuple (.str w :: r)) = false := by
              unfold frameD
              simp only [hiu, if_true]
              match r, hl with
              | [], _ => rfl
              | [_], _ => rfl
              | _ :: _ :: _ :: _, _ => rfl
            simp [ir_is_frame, runFn, exs, ex, ev, evs, evArgs, evO, evAnd, evOr, evIt, entry, tst, truE, rdOf, tkOf, fstOf, lateOf, quiet, quiets, quietO, pers, look, keepV, readV, takeV, copV, bopV, biV, bi2V, truV, fin, okFin, finals, callNow, argsNow, argNow, lent, back, hidOf, hid2Of, VI.bind, VI.binds, tgs, tgss, asgI, asgs, wipeE, unset, keepP, items, e1, hrow, hh, isiV, tyIs, tyN, hi', pyEqI, pyEqS, pyEqB, pyEqSI, pyEqIS, pyEqNI, pyEqIN, pyEqNN, pyEqNil, hne, hfr]
        · have hi' : pyIn (.str w) (.tuple [.str "is", .str "under"]) = some false := by
            rw [hi]; simpa using hiu
          have hwl := getW (w := w)
          simp [ir_is_frame, runFn, exs, ex, ev, evs, evArgs, evO, evAnd, evOr, evIt, entry, tst, truE, rdOf, tkOf, fstOf, lateOf, quiet, quiets, quietO, pers, look, keepV, readV, takeV, copV, bopV, biV, bi2V, truV, fin, okFin, finals, callNow, argsNow, argNow, lent, back, hidOf, hid2Of, VI.bind, VI.binds, tgs, tgss, asgI, asgs, wipeE, unset, keepP, items, e1, hrow, hh, isiV, tyIs, tyN, hi', pyEqI, pyEqS, pyEqB, pyEqSI, pyEqIS, pyEqNI, pyEqIN, pyEqNN, pyEqNil, words_pair, hwl, frameD, hiu]
      | _ => simp [ir_is_frame, runFn, exs, ex, ev, evs, evArgs, evO, evAnd, evOr, evIt, entry, tst, truE, rdOf, tkOf, fstOf, lateOf, quiet, quiets, quietO, pers, look, keepV, readV, takeV, copV, bopV, biV, bi2V, truV, fin, okFin, finals, callNow, argsNow, argNow, lent, back, hidOf, hid2Of, VI.bind, VI.binds, tgs, tgss, asgI, asgs, wipeE, unset, keepP, items, e1, hrow, hh, isiV, tyIs, tyN, frameD]
  · have hrow' : isRow x 1 3 = false := by simpa using hrow
    have hfr : frameD room x = false := by
      unfold frameD
      split
      · rename_i w r
        simp only [isRow] at hrow'
        simp at hrow'
        have hr2 : 3 ≤ r.length := by omega
        split
        · split
          · simp at hr2
          · rfl
        · simp only [decide_eq_false_iff_not]
          unfold wordLen
          split
          · omega
          · split
            · omega
            · split
              · omega
              · split <;> omega
      · rfl
    simp [ir_is_frame, runFn, exs, ex, ev, evs, evArgs, evO, evAnd, evOr, evIt, entry, tst, truE, rdOf, tkOf, fstOf, lateOf, quiet, quiets, quietO, pers, look, keepV, readV, takeV, copV, bopV, biV, bi2V, truV, fin, okFin, finals, callNow, argsNow, argNow, lent, back, hidOf, hid2Of, VI.bind, VI.binds, tgs, tgss, asgI, asgs, wipeE, unset, keepP, items, e1, hrow', hfr]
theorem sum_ints (l : List Nat) : intsOf (l.map fun i => PyData.int (i : Nat)) = some (l.map fun (i : Nat) => (i : Int)) := by
  induction l with
  | nil => rfl
  | cons a l ih => simp only [List.map_cons, intsOf, ih]
theorem sum_nat (l : List Nat) : (l.map fun (i : Nat) => (i : Int)).sum = ((l.sum : Nat) : Int) := by
  induction l with
  | nil => rfl
  | cons a l ih => simp [ih]
theorem frame_head {room : List Int} {x : PyData} (h : frameD room x = true) : ∃ w r, x = .tuple (.str w :: r) ∧ r.length ≤ 2 := by
  unfold frameD at h
  split at h
  · rename_i w r
    refine ⟨w, r, rfl, ?_⟩
    split at h
    · split at h
      · simp
      · cases h
    · simp only [decide_eq_true_eq] at h
      unfold wordLen at h
      split at h
      · omega
      · split at h
        · omega
        · split at h
          · omega
          · split at h <;> omega
  · cases h
theorem count_lev (hf : Γ[f]? = some (ir_count_parts f_is_frame f f_parts_of)) (h1 : Lev Γ n (FrameC f_is_frame)) (h2 : Lev Γ n (PartsC f_parts_of)) : ∀ dep, Lev Γ (n + dep + 1) (CountC f dep)
  | 0 => by
    refine lev_of (n := n) fun k hk room x deep hx hd => ?_
    rw [call_at hf]
    obtain rfl : deep = 0 := by omega
    simp [ir_count_parts, runFn, exs, ex, ev, evs, evArgs, evO, evAnd, evOr, evIt, entry, tst, truE, rdOf, tkOf, fstOf, lateOf, quiet, quiets, quietO, pers, look, keepV, readV, takeV, copV, bopV, biV, bi2V, truV, fin, okFin, finals, callNow, argsNow, argNow, lent, back, hidOf, hid2Of, VI.bind, VI.binds, tgs, tgss, asgI, asgs, wipeE, unset, keepP, items, pyEqI, pyEqS, pyEqB, pyEqSI, pyEqIS, pyEqNI, pyEqIN, pyEqNN, pyEqNil, countD]
  | dep + 1 => by
    refine lev_of (n := n + dep + 1) fun k hk room x deep hx hd => ?_
    rw [call_at hf]
    have e1 := h1 k (by omega) room x hx
    have ih := count_lev hf h1 h2 dep k hk
    cases deep with
    | zero => simp [ir_count_parts, runFn, exs, ex, ev, evs, evArgs, evO, evAnd, evOr, evIt, entry, tst, truE, rdOf, tkOf, fstOf, lateOf, quiet, quiets, quietO, pers, look, keepV, readV, takeV, copV, bopV, biV, bi2V, truV, fin, okFin, finals, callNow, argsNow, argNow, lent, back, hidOf, hid2Of, VI.bind, VI.binds, tgs, tgss, asgI, asgs, wipeE, unset, keepP, items, pyEqI, pyEqS, pyEqB, pyEqSI, pyEqIS, pyEqNI, pyEqIN, pyEqNN, pyEqNil, countD]
    | succ deep =>
      have h0 : ¬ ((deep : Int) + 1 = 0) := by omega
      by_cases hfr : frameD room x = true
      · obtain ⟨w, r, rfl, hrl⟩ := frame_head hfr
        obtain ⟨hw, hr⟩ := small_head hx
        have e2 := h2 k (by omega) w r hw
        have hps : ∀ p ∈ partsD (.tuple (.str w :: r)), smallD p = true := by
          intro p hp
          simp only [partsD] at hp
          split at hp
          · exact small_mem hr p hp
          · cases hp
        have hpl : (partsD (.tuple (.str w :: r))).length ≤ 2 := by
          simp only [partsD]
          split
          · exact hrl
          · simp
        generalize hX : PyData.tuple (.str w :: r) = X at *
        generalize hP : partsD X = ps at *
        have hc := compL_map (C := call Γ k) (t := .nm 3) (own := [3]) (e := ev (call Γ k) (ir_count_parts_e1 f)) id (fun u => .int (countD room deep u)) (ys := ps) (acc := []) (env := [some (T room, .p), some (X, .p), some (.int ((deep : Int) + 1), .p), none]) (fun u hu => by
          have c := ih room u deep (hps u hu) (by omega)
          refine ⟨_, false, [some (T room, .p), some (X, .p), some (.int ((deep : Int) + 1), .p), some (u, .p)], rfl, ?_, rfl⟩
          simp [ir_count_parts_e1, runFn, exs, ex, ev, evs, evArgs, evO, evAnd, evOr, evIt, entry, tst, truE, rdOf, tkOf, fstOf, lateOf, quiet, quiets, quietO, pers, look, keepV, readV, takeV, copV, bopV, biV, bi2V, truV, fin, okFin, finals, callNow, argsNow, argNow, lent, back, hidOf, hid2Of, VI.bind, VI.binds, tgs, tgss, asgI, asgs, wipeE, unset, keepP, items, c]) (sizeLine_big (by simp; omega))
        simp at hc
        have hs1 : intsOf (ps.map fun u => PyData.int (countD room deep u)) = some ((ps.map (countD room deep)).map fun (i : Nat) => (i : Int)) := by
          rw [← sum_ints, List.map_map]; rfl
        have hs2 := sum_nat (ps.map (countD room deep))
        rw [List.map_map] at hs2
        have hcd : countD room (deep + 1) X = 1 + (ps.map (countD room deep)).sum := by
          simp only [countD, hP]
          rw [if_pos hfr]
        simp [ir_count_parts, runFn, exs, ex, ev, evs, evArgs, evO, evAnd, evOr, evIt, entry, tst, truE, rdOf, tkOf, fstOf, lateOf, quiet, quiets, quietO, pers, look, keepV, readV, takeV, copV, bopV, biV, bi2V, truV, fin, okFin, finals, callNow, argsNow, argNow, lent, back, hidOf, hid2Of, VI.bind, VI.binds, tgs, tgss, asgI, asgs, wipeE, unset, keepP, items, pyEqI, pyEqS, pyEqB, pyEqSI, pyEqIS, pyEqNI, pyEqIN, pyEqNN, pyEqNil, h0, e1, hfr, e2, hc, hs1, hcd]
        exact hs2
      · have hfr' : frameD room x = false := by simpa using hfr
        simp [ir_count_parts, runFn, exs, ex, ev, evs, evArgs, evO, evAnd, evOr, evIt, entry, tst, truE, rdOf, tkOf, fstOf, lateOf, quiet, quiets, quietO, pers, look, keepV, readV, takeV, copV, bopV, biV, bi2V, truV, fin, okFin, finals, callNow, argsNow, argNow, lent, back, hidOf, hid2Of, VI.bind, VI.binds, tgs, tgss, asgI, asgs, wipeE, unset, keepP, items, pyEqI, pyEqS, pyEqB, pyEqSI, pyEqIS, pyEqNI, pyEqIN, pyEqNN, pyEqNil, h0, e1, hfr', countD]
theorem isTest_lev (hf : Γ[f]? = some (ir_is_test f_count_parts)) (h1 : Lev Γ n (CountC f_count_parts 5)) : Lev Γ (n + 1) (IsTestC f) := by
  refine lev_of fun k hk room x hx => ?_
  rw [call_at hf]
  have e1 := h1 k hk room x 5 hx (by decide)
  have e2 : ((5 : Nat) : Int) = 5 := rfl
  rw [e2] at e1
  have e3 : decide ((countD room 5 x : Int) ≤ 9) = decide (countD room 5 x ≤ 9) := by
    by_cases h : countD room 5 x ≤ 9
    · have : (countD room 5 x : Int) ≤ 9 := by omega
      simp [h, this]
    · have : ¬ (countD room 5 x : Int) ≤ 9 := by omega
      simp [h, this]
  simp [ir_is_test, runFn, exs, ex, ev, evs, evArgs, evO, evAnd, evOr, evIt, entry, tst, truE, rdOf, tkOf, fstOf, lateOf, quiet, quiets, quietO, pers, look, keepV, readV, takeV, copV, bopV, biV, bi2V, truV, fin, okFin, finals, callNow, argsNow, argNow, lent, back, hidOf, hid2Of, VI.bind, VI.binds, tgs, tgss, asgI, asgs, wipeE, unset, keepP, items, e1, isTestD, e3]
end
end VI
set_option maxRecDepth 100000
set_option maxHeartbeats 4000000
/-! The third kind of pen: a list. -/
namespace VI
open PySem
/-- 0:_law_script -/
def irPen3 : Fn := ⟨1, 1,
   [(.ret (.lst [(.var 0), (.cst (.int 0)), (.cst (.int 0))]))], []⟩
/-- 0:_law_pen_here 1:_law_many 2:_law_found 3:_law_script 4:_law_at 5:_law_cell 6:_law_number -/
def irTake3 : Fn := ⟨2, 7,
   [(.ifs (.cmp .gt (.ix (.var 0) (.cst (.int 2))) (.cst (.int 0))) [(.asg (.nm 2) (.bop .mod (.ix (.var 0) (.cst (.int 2))) (.var 1))),
    (.set 0 (.cst (.int 2)) (.bop .fdiv (.ix (.var 0) (.cst (.int 2))) (.var 1))),
    (.ret (.var 2))] []),
    (.asg (.tp [(.nm 3), (.nm 4)]) (.sl (.var 0) none (some (.cst (.int 2))))),
    (.set 0 (.cst (.int 1)) (.bop .add (.var 4) (.cst (.int 1)))),
    (.asg (.nm 5) (.bop .add (.bop .mul (.cst (.int 271)) (.var 4)) (.cst (.int 12347)))),
    (.ifs (.cmp .gt (.bi .len (.var 3)) (.cst (.int 0))) [(.asg (.nm 5) (.ix (.var 3) (.bop .mod (.var 4) (.bi .len (.var 3)))))] []),
    (.ifs (.andv [(.cmp .lt (.var 4) (.bi .len (.var 3))), (.cmp .ge (.bi .abs (.var 5)) (.bop .pow (.cst (.int 10)) (.cst (.int 18))))]) [(.set 0 (.cst (.int 2)) (.bop .fdiv (.bi .abs (.var 5)) (.var 1))),
    (.ret (.bop .mod (.bi .abs (.var 5)) (.var 1)))] []),
    (.asg (.nm 6) (.bop .mod (.bop .pow (.bop .add (.bop .add (.bop .mod (.var 5) (.cst (.int 2147483629))) (.bop .mul (.cst (.int 40503)) (.var 4))) (.cst (.int 31))) (.cst (.int 5))) (.cst (.int 2147483647)))),
    (.ret (.bop .mod (.bop .fdiv (.bop .mod (.bop .mul (.var 6) (.bop .add (.bop .mod (.var 6) (.cst (.int 65521))) (.var 4))) (.cst (.int 2147483629))) (.cst (.int 64))) (.var 1)))], [2, 3, 4, 5, 5, 6]⟩
def penD3 (cs : List Int) (a l : Int) : PyData := .list [.list (cs.map .int), .int a, .int l]
section
variable {cs : List Int} {a l m v : Int} {C : CallF}
theorem pen3_left : ixV (penD3 cs a l) (.int 2) = some (.int l) := at2L
theorem pen3_cut : slV (penD3 cs a l) none (some 2) = some (.list [.list (cs.map .int), .int a], true) := by
  simp only [penD3, slV]
  rw [show (2 : Int) = ((2 : Nat) : Int) from rfl, cut_to]
  rfl
theorem pen3_setA : setV (penD3 cs a l) (.int 1) (.int v) = some (penD3 cs v l) := setL (m := 1) (by simp)
theorem pen3_setL : setV (penD3 cs a l) (.int 2) (.int v) = some (penD3 cs a v) := setL (m := 2) (by simp)
theorem take3_left (hl : 0 < l) (hm : 0 < m) (hm2 : m < 1073741824) : runFn C irTake3 [(penD3 cs a l, true), (.int m, false)] = some (.int (l.fmod m), false, [(penD3 cs a (l.fdiv m), true), (.int m, false)]) := by
  have e1 : m ≠ 0 := by omega
  have e2 : m.natAbs < 1073741824 := by omega
  simp [runFn, irTake3, exs, ex, ev, entry, tst, truE, rdOf, fstOf, lateOf, quiet, pers, look, keepV, readV, takeV, tkOf, pen3_left, copV, hl, truV, bopV, e1, e2, pen3_setL, fin, okFin, finals]
def mx3 (c a : Int) : Int := ((c.fmod 2147483629 + 40503 * a + 31) ^ 5).fmod 2147483647
def mxR (c a m : Int) : Int := (((mx3 c a * ((mx3 c a).fmod 65521 + a)).fmod 2147483629).fdiv 64).fmod m
theorem mx_small {c a : Int} (ha : 0 ≤ a) (ha2 : a ≤ 2147483648) : (c.fmod 2147483629 + 40503 * a + 31).natAbs < 18446744073709551616 ∧ (mx3 c a).natAbs < 18446744073709551616 := by
  obtain ⟨h1, h2⟩ := fmod_pos (x := c) (m := 2147483629) (by decide)
  obtain ⟨h3, h4⟩ := fmod_pos (x := (c.fmod 2147483629 + 40503 * a + 31) ^ 5) (m := 2147483647) (by decide)
  refine ⟨by omega, ?_⟩
  unfold mx3
  omega
def take3Tail : List IS := irTake3.body.drop 6
theorem take3_tail {s0 s2 s3 s6 : Slot} {c : Int} (ha : 0 ≤ a) (ha2 : a ≤ 2147483648) (hm : m ≠ 0) : exs C take3Tail [s0, some (.int m, .p), s2, s3, some (.int a, .p), some (.int c, .p), s6] =
    some (.rt (.int (mxR c a m)) false, [s0, some (.int m, .p), s2, s3, some (.int a, .p), some (.int c, .p), some (.int (mx3 c a), .p)]) := by
  obtain ⟨p1, p2⟩ := mx_small (c := c) ha ha2
  unfold mx3 at p2
  simp [take3Tail, irTake3, exs, ex, ev, rdOf, fstOf, lateOf, quiet, pers, look, keepV, readV, tkOf, bopV, p1, p2, hm, mx3, mxR]
def take3Head : List IS := irTake3.body.take 5
def take3Mid : IS := (.ifs (.andv [(.cmp .lt (.var 4) (.bi .len (.var 3))), (.cmp .ge (.bi .abs (.var 5)) (.bop .pow (.cst (.int 10)) (.cst (.int 18))))]) [(.set 0 (.cst (.int 2)) (.bop .fdiv (.bi .abs (.var 5)) (.var 1))),
    (.ret (.bop .mod (.bi .abs (.var 5)) (.var 1)))] [])
theorem take3_head (hl : ¬ 0 < l) (ha : 0 ≤ a) : ∃ c, exs C take3Head [some (penD3 cs a l, .b), some (.int m, .p), none, none, none, none, none] =
    some (.nx, [some (penD3 cs (a + 1) l, .b), some (.int m, .p), none, some (.list (cs.map .int), .p), some (.int a, .p), some (.int c, .p), none]) := by
  by_cases hc : cs = []
  · subst hc
    refine ⟨271 * a + 12347, ?_⟩
    have pc := pen3_cut (cs := []) (a := a) (l := l)
    simp only [List.map_nil] at pc
    simp [take3Head, irTake3, exs, ex, ev, evs, evO, tst, truE, rdOf, fstOf, lateOf, quiet, quiets, quietO, pers, look, keepV, readV, takeV, tkOf, VI.bind, VI.binds, pen3_left, pc, pen3_setA, copV, hl, truV, bopV, biV]
  · obtain ⟨c, hcell⟩ := at_cell hc ha
    refine ⟨c, ?_⟩
    have h0 := List.length_pos_iff.mpr hc
    have h2 : (cs.length : Int) ≠ 0 := by omega
    have h3 : 0 < (cs.length : Int) := by omega
    simp [take3Head, irTake3, exs, ex, ev, evs, evO, tst, truE, rdOf, fstOf, lateOf, quiet, quiets, quietO, pers, look, keepV, readV, takeV, tkOf, VI.bind, VI.binds, pen3_left, pen3_cut, pen3_setA, copV, hl, truV, bopV, biV, h0, h2, h3, hc, hcell]
theorem take3_step (hl : ¬ 0 < l) (hl0 : 0 ≤ l) (ha : 0 ≤ a) (ha2 : a ≤ 2147483648) (hm : 0 < m) (hm2 : m < 1073741824) :
    ∃ r l', runFn C irTake3 [(penD3 cs a l, true), (.int m, false)] = some (.int r, false, [(penD3 cs (a + 1) l', true), (.int m, false)]) ∧ 0 ≤ r ∧ r < m ∧ 0 ≤ l' := by
  obtain ⟨c, hh⟩ := take3_head (cs := cs) (a := a) (l := l) (m := m) (C := C) hl ha
  have e1 : m ≠ 0 := by omega
  have e2 : m.natAbs < 1073741824 := by omega
  have body : irTake3.body = take3Head ++ (take3Mid :: take3Tail) := rfl
  have en : entry irTake3 0 [(penD3 cs a l, true), (.int m, false)] ++ List.replicate (irTake3.ns - irTake3.np) none = [some (penD3 cs a l, .b), some (.int m, .p), none, none, none, none, none] := by
    simp [entry, irTake3]
  have hA : (if c < 0 then -c else c) = (c.natAbs : Int) := by split <;> omega
  by_cases hb : a < (cs.length : Int) ∧ (1000000000000000000 : Int) ≤ (if c < 0 then -c else c)
  · refine ⟨((if c < 0 then -c else c) : Int).fmod m, ((if c < 0 then -c else c) : Int).fdiv m, ?_, (fmod_pos hm).1, (fmod_pos hm).2, ?_⟩
    · unfold runFn
      rw [if_pos (show [(penD3 cs a l, true), (PyData.int m, false)].length = irTake3.np from rfl), body, exs_app, en, hh]
      simp [take3Mid, exs, ex, ev, evAnd, tst, truE, rdOf, fstOf, lateOf, quiet, pers, look, keepV, readV, takeV, tkOf, pen3_setL, copV, truV, bopV, biV, hb.1, hb.2, e1, e2, fin, okFin, finals, irTake3]
    · exact Int.fdiv_nonneg (by rw [hA]; omega) (by omega)
  · refine ⟨mxR c a m, l, ?_, (fmod_pos hm).1, (fmod_pos hm).2, hl0⟩
    unfold runFn
    rw [if_pos (show [(penD3 cs a l, true), (PyData.int m, false)].length = irTake3.np from rfl), body, exs_app, en, hh]
    have mid : ex C take3Mid [some (penD3 cs (a + 1) l, .b), some (.int m, .p), none, some (.list (cs.map .int), .p), some (.int a, .p), some (.int c, .p), none] = some (.nx, [some (penD3 cs (a + 1) l, .b), some (.int m, .p), none, some (.list (cs.map .int), .p), some (.int a, .p), some (.int c, .p), none]) := by
      by_cases h1 : a < (cs.length : Int)
      · have h2 : ¬ (1000000000000000000 : Int) ≤ (if c < 0 then -c else c) := fun z => hb ⟨h1, z⟩
        simp [take3Mid, exs, ex, ev, evAnd, tst, truE, rdOf, fstOf, lateOf, quiet, pers, look, keepV, readV, copV, truV, bopV, biV, h1, h2]
      · simp [take3Mid, exs, ex, ev, evAnd, tst, truE, rdOf, fstOf, lateOf, quiet, pers, look, keepV, readV, copV, truV, bopV, biV, h1]
    simp only [exs, mid, take3_tail ha ha2 e1]
    simp [look, fin, okFin, finals, irTake3]
end
theorem take3_ok {C : CallF} {cs : List Int} {a l m : Int} (hl : 0 ≤ l) (ha : 0 ≤ a) (ha2 : a ≤ 2147483648) (hm : 0 < m) (hm2 : m < 1073741824) :
    ∃ r a' l', runFn C irTake3 [(penD3 cs a l, true), (.int m, false)] = some (.int r, false, [(penD3 cs a' l', true), (.int m, false)]) ∧ 0 ≤ r ∧ r < m ∧ a ≤ a' ∧ a' ≤ a + 1 ∧ 0 ≤ l' := by
  by_cases h : 0 < l
  · exact ⟨_, a, _, take3_left h hm hm2, (fmod_pos hm).1, (fmod_pos hm).2, Int.le_refl _, by omega, Int.fdiv_nonneg (by omega) (by omega)⟩
  · obtain ⟨r, l', e, h1, h2, h3⟩ := take3_step (C := C) (cs := cs) h hl ha ha2 hm hm2
    exact ⟨r, a + 1, l', e, h1, h2, by omega, Int.le_refl _, h3⟩
def Pen3OK (d : PyData) (i : Nat) : Prop := ∃ cs a l, d = penD3 cs a l ∧ 0 ≤ l ∧ 0 ≤ a ∧ a ≤ (i : Int)
def Take3C (f : Nat) (C : CallF) : Prop := ∀ d i (m : Int), Pen3OK d i → i ≤ 2147483648 → 0 < m → m < 1073741824 →
  ∃ r d', C f [(d, true), (.int m, false)] = some (.int r, false, [(d', true), (.int m, false)]) ∧ 0 ≤ r ∧ r < m ∧ Pen3OK d' (i + 1)
theorem take3_lev {Γ : List Fn} {f : Nat} (hf : Γ[f]? = some irTake3) : Lev Γ 1 (Take3C f) := by
  refine lev_of (n := 0) fun k _ d i m hp hi hm hm2 => ?_
  obtain ⟨cs, a, l, rfl, h1, h2, h3⟩ := hp
  obtain ⟨r, a', l', e, e1, e2, e3, e4, e5⟩ := take3_ok (C := call Γ k) (cs := cs) (a := a) (l := l) h1 h2 (by omega) hm hm2
  exact ⟨r, _, by rw [call_at hf]; exact e, e1, e2, cs, a', l', rfl, e5, by omega, by omega⟩
theorem Pen3OK.le {d : PyData} {i j : Nat} (h : Pen3OK d i) (hj : i ≤ j) : Pen3OK d j := by
  obtain ⟨cs, a, l, h0, h1, h2, h3⟩ := h
  exact ⟨cs, a, l, h0, h1, h2, by omega⟩
def Pen3C (f : Nat) (C : CallF) : Prop := ∀ ns : List Int, ns.length ≤ 63 → ∃ d, C f [(.list (ns.map .int), false)] = some (d, true, [(.list (ns.map .int), false)]) ∧ Pen3OK d 0
theorem pen3_lev {Γ : List Fn} {f : Nat} (hf : Γ[f]? = some irPen3) : Lev Γ 1 (Pen3C f) := by
  refine lev_of (n := 0) fun k _ ns h => ⟨penD3 ns 0 0, ?_, ns, 0, 0, rfl, by omega, by omega, by omega⟩
  rw [call_at hf]
  simp [runFn, irPen3, exs, ex, ev, evs, evO, entry, rdOf, fstOf, lateOf, quiet, quiets, quietO, pers, look, keepV, readV, tkOf, biV, fin, okFin, finals, penD3]
end VI
set_option maxRecDepth 100000
set_option maxHeartbeats 4000000
/-! Tests and classes of the third kind. -/
namespace VI
open PySem
/-- 0:_law_test_here 1:_law_facts -/
def irMeets3 (f__law_meets : Nat) : Fn := ⟨2, 2,
   [(.ifs (.cmp .eq (.ix (.var 0) (.cst (.int 0))) (.cst (.str "is"))) [(.ret (.cmp .eq (.ix (.var 1) (.ix (.var 0) (.cst (.int 1)))) (.ix (.var 0) (.cst (.int 2)))))] []),
    (.ifs (.cmp .eq (.ix (.var 0) (.cst (.int 0))) (.cst (.str "under"))) [(.ret (.cmp .lt (.ix (.var 1) (.ix (.var 0) (.cst (.int 1)))) (.ix (.var 0) (.cst (.int 2)))))] []),
    (.ifs (.cmp .eq (.ix (.var 0) (.cst (.int 0))) (.cst (.str "not"))) [(.ret (.nt (.call f__law_meets [(.ix (.var 0) (.cst (.int 1))), (.var 1)])))] []),
    (.ifs (.cmp .eq (.ix (.var 0) (.cst (.int 0))) (.cst (.str "both"))) [(.ret (.andv [(.call f__law_meets [(.ix (.var 0) (.cst (.int 1))), (.var 1)]), (.call f__law_meets [(.ix (.var 0) (.cst (.int 2))), (.var 1)])]))] []),
    (.ret (.orv [(.cmp .eq (.ix (.var 0) (.cst (.int 0))) (.cst (.str "yes"))), (.call f__law_meets [(.ix (.var 0) (.cst (.int 1))), (.var 1)]), (.call f__law_meets [(.ix (.var 0) (.cst (.int 2))), (.var 1)])]))], []⟩
/-- 0:_law_pen_here 1:_law_room 2:_law_deep 3:_law_way_of 4:_law_trait 5:_law_worth 6:_law_one -/
def irTest3 (f__law_take f__law_test : Nat) : Fn := ⟨3, 7,
   [(.asg (.nm 3) (.call f__law_take [(.var 0), (.cst (.int 7))])),
    (.asg (.nm 4) (.call f__law_take [(.var 0), (.bi .len (.var 1))])),
    (.asg (.nm 5) (.call f__law_take [(.var 0), (.ix (.var 1) (.var 4))])),
    (.ifs (.cmp .eq (.var 3) (.cst (.int 0))) [(.ret (.tup [(.cst (.str "yes"))]))] []),
    (.ifs (.cmp .lt (.var 3) (.cst (.int 3))) [(.ret (.tup [(.cst (.str "is")), (.var 4), (.var 5)]))] []),
    (.ifs (.cmp .eq (.var 3) (.cst (.int 3))) [(.ret (.tup [(.cst (.str "under")), (.var 4), (.bop .add (.cst (.int 1)) (.call f__law_take [(.var 0), (.bop .sub (.ix (.var 1) (.var 4)) (.cst (.int 1)))]))]))] []),
    (.ifs (.orv [(.cmp .lt (.var 2) (.cst (.int 2))), (.cmp .eq (.var 3) (.cst (.int 4)))]) [(.ret (.tup [(.cst (.str "not")), (.tup [(.cst (.str "is")), (.var 4), (.var 5)])]))] []),
    (.asg (.nm 6) (.call f__law_test [(.var 0), (.var 1), (.bop .sub (.var 2) (.cst (.int 1)))])),
    (.ret (.tup [(.ix (.lst [(.cst (.str "both")), (.cst (.str "either"))]) (.bop .sub (.var 3) (.cst (.int 5)))), (.var 6), (.call f__law_test [(.var 0), (.var 1), (.bop .sub (.var 2) (.cst (.int 1)))])]))], [3, 4, 5, 6]⟩
/-- 0:_law_pen_here 1:_law_room 2:_law_movings 3:_law_sort 4:_law_test_here 5:_law_part -/
def irNewTest3 (f__law_take f__law_test : Nat) : Fn := ⟨3, 6,
   [(.asg (.nm 3) (.call f__law_take [(.var 0), (.cst (.int 7))])),
    (.asg (.nm 4) (.call f__law_test [(.var 0), (.var 1), (.cst (.int 2))])),
    (.asg (.nm 5) (.call f__law_test [(.var 0), (.var 1), (.cst (.int 1))])),
    (.ifs (.andv [(.cmp .eq (.var 3) (.cst (.int 0))), (.cmp .ne (.var 2) (.lst []))]) [(.ret (.ix (.ix (.var 2) (.call f__law_take [(.var 0), (.bi .len (.var 2))])) (.cst (.int 0))))] []),
    (.ifs (.cmp .eq (.var 3) (.cst (.int 1))) [(.ret (.tup [(.cst (.str "both")), (.var 5), (.tup [(.cst (.str "not")), (.var 5)])]))] []),
    (.ifs (.cmp .eq (.var 3) (.cst (.int 2))) [(.ret (.tup [(.cst (.str "either")), (.var 5), (.tup [(.cst (.str "not")), (.var 5)])]))] []),
    (.ret (.var 4))], [3, 4, 5]⟩
/-- 0:_law_pen_here 1:_law_room 2:_law_many 3:_law_c 4:_law_movings 5:_law_k 6:_law_splits 7:_law_most 8:_law_same 9:_law_points -/
def irClass3_b1 (f__law_new_test f__law_take : Nat) : List IS := [(.ex (.mu .append 4 [(.tup [(.call f__law_new_test [(.var 0), (.var 1), (.var 4)]), (.bop .mod (.bop .add (.bop .add (.var 3) (.cst (.int 1))) (.call f__law_take [(.var 0), (.bop .sub (.var 2) (.cst (.int 1)))])) (.var 2))])]))]
def irClass3_b2 (f__law_take : Nat) : List IS := [(.asg (.nm 7) (.bop .add (.cst (.int 1)) (.call f__law_take [(.var 0), (.ix (.lst [(.cst (.int 3)), (.cst (.int 8))]) (.call f__law_take [(.var 0), (.cst (.int 2))]))]))),
    (.ex (.mu .append 6 [(.tup [(.call f__law_take [(.var 0), (.bi .len (.var 1))]), (.var 7), (.bop .add (.cst (.int 1)) (.call f__law_take [(.var 0), (.ix (.lst [(.cst (.int 2)), (.cst (.int 4)), (.cst (.int 8))]) (.call f__law_take [(.var 0), (.cst (.int 3))]))]))])]))]
def irClass3_e1 (f__law_take : Nat) : IE := (.ix (.lst [(.call f__law_take [(.var 0), (.cst (.int 100))]), (.var 8), (.bop .sub (.cst (.int 3)) (.var 5)), (.cst (.int 0))]) (.call f__law_take [(.var 0), (.cst (.int 4))]))
@[simp] theorem irClass3_b1_asgs {f__law_new_test f__law_take : Nat} : asgs (irClass3_b1 f__law_new_test f__law_take) = [] := by rfl
@[simp] theorem irClass3_b2_asgs {f__law_take : Nat} : asgs (irClass3_b2 f__law_take) = [7] := by rfl
def irClass3 (f__law_take f__law_new_test : Nat) : Fn := ⟨4, 10,
   [(.asg (.nm 4) (.lst [])),
    (.for_ (.nm 5) (.rng1 (.bop .mul (.call f__law_take [(.var 0), (.cst (.int 5))]) (.bi .int (.cmp .gt (.var 2) (.cst (.int 1)))))) (irClass3_b1 f__law_new_test f__law_take)),
    (.asg (.nm 6) (.lst [])),
    (.for_ (.nm 5) (.rng1 (.call f__law_take [(.var 0), (.cst (.int 3))])) (irClass3_b2 f__law_take)),
    (.asg (.nm 8) (.call f__law_take [(.var 0), (.cst (.int 100))])),
    (.asg (.nm 9) (.bi .tuple (.cmpr (irClass3_e1 f__law_take) (.nm 5) (.rng1 (.bop .add (.cst (.int 1)) (.call f__law_take [(.var 0), (.cst (.int 3))]))) []))),
    (.ret (.tup [(.bi .tuple (.var 4)), (.bi .tuple (.var 6)), (.var 9)]))], [4, 5, 6, 5, 7, 8, 9]⟩
section
variable {Γ : List Fn} {f n f_take f_test f_new : Nat} {C : CallF}
theorem meets3_lev (hf : Γ[f]? = some (irMeets3 f)) : ∀ dep, Lev Γ dep (MeetsC f dep)
  | 0 => fun k _ t facts h _ => absurd t.deep_pos (by omega)
  | dep + 1 => by
    refine lev_of fun k hk t facts hd hl => ?_
    rw [call_at hf]
    have ih := meets3_lev hf dep k hk
    cases t with
    | yes => simp [irMeets3, runFn, exs, ex, ev, evs, evArgs, evO, evAnd, evOr, evIt, entry, tst, truE, rdOf, tkOf, fstOf, lateOf, quiet, quiets, quietO, pers, look, keepV, readV, takeV, copV, bopV, biV, bi2V, truV, fin, okFin, finals, callNow, argsNow, argNow, lent, back, hidOf, hid2Of, VI.bind, VI.binds, tgs, tgss, asgI, asgs, wipeE, unset, keepP, items, Tst.enc, pyEq, Tst.meets]
    | is t w => simp [irMeets3, runFn, exs, ex, ev, evs, evArgs, evO, evAnd, evOr, evIt, entry, tst, truE, rdOf, tkOf, fstOf, lateOf, quiet, quiets, quietO, pers, look, keepV, readV, takeV, copV, bopV, biV, bi2V, truV, fin, okFin, finals, callNow, argsNow, argNow, lent, back, hidOf, hid2Of, VI.bind, VI.binds, tgs, tgss, asgI, asgs, wipeE, unset, keepP, items, Tst.enc, pyEq, Tst.meets, atT hl.1 hl.2]
    | under t w => simp [irMeets3, runFn, exs, ex, ev, evs, evArgs, evO, evAnd, evOr, evIt, entry, tst, truE, rdOf, tkOf, fstOf, lateOf, quiet, quiets, quietO, pers, look, keepV, readV, takeV, copV, bopV, biV, bi2V, truV, fin, okFin, finals, callNow, argsNow, argNow, lent, back, hidOf, hid2Of, VI.bind, VI.binds, tgs, tgss, asgI, asgs, wipeE, unset, keepP, items, Tst.enc, pyEq, Tst.meets, atT hl.1 hl.2]
    | not a =>
      have e := ih a facts (by simp [Tst.deep] at hd; omega) hl
      simp [irMeets3, runFn, exs, ex, ev, evs, evArgs, evO, evAnd, evOr, evIt, entry, tst, truE, rdOf, tkOf, fstOf, lateOf, quiet, quiets, quietO, pers, look, keepV, readV, takeV, copV, bopV, biV, bi2V, truV, fin, okFin, finals, callNow, argsNow, argNow, lent, back, hidOf, hid2Of, VI.bind, VI.binds, tgs, tgss, asgI, asgs, wipeE, unset, keepP, items, Tst.enc, pyEq, Tst.meets, e]
    | both a b =>
      have e1 := ih a facts (by simp [Tst.deep] at hd; omega) hl.1
      have e2 := ih b facts (by simp [Tst.deep] at hd; omega) hl.2
      cases h : a.meets facts <;> rw [h] at e1 <;> simp [irMeets3, runFn, exs, ex, ev, evs, evArgs, evO, evAnd, evOr, evIt, entry, tst, truE, rdOf, tkOf, fstOf, lateOf, quiet, quiets, quietO, pers, look, keepV, readV, takeV, copV, bopV, biV, bi2V, truV, fin, okFin, finals, callNow, argsNow, argNow, lent, back, hidOf, hid2Of, VI.bind, VI.binds, tgs, tgss, asgI, asgs, wipeE, unset, keepP, items, Tst.enc, pyEq, Tst.meets, e1, e2, h]
    | either a b =>
      have e1 := ih a facts (by simp [Tst.deep] at hd; omega) hl.1
      have e2 := ih b facts (by simp [Tst.deep] at hd; omega) hl.2
      cases h : a.meets facts <;> rw [h] at e1 <;> simp [irMeets3, runFn, exs, ex, ev, evs, evArgs, evO, evAnd, evOr, evIt, entry, tst, truE, rdOf, tkOf, fstOf, lateOf, quiet, quiets, quietO, pers, look, keepV, readV, takeV, copV, bopV, biV, bi2V, truV, fin, okFin, finals, callNow, argsNow, argNow, lent, back, hidOf, hid2Of, VI.bind, VI.binds, tgs, tgss, asgI, asgs, wipeE, unset, keepP, items, Tst.enc, pyEq, Tst.meets, e1, e2, h]
def pw3 : Nat → Nat | 0 => 0 | n + 1 => 2 * pw3 n + 4
def sz3 : Nat → Nat | 0 => 0 | n + 1 => 2 * sz3 n + 2
def Test3C (f dep : Nat) (C : CallF) : Prop := ∀ d i room (deep : Int), Pen3OK d i → IsRoom room → 1 ≤ deep → deep ≤ dep → i + pw3 dep ≤ 2147483648 →
  ∃ (t : Tst) (d' : PyData), C f [(d, true), (T room, false), (.int deep, false)] = some (t.enc, false, [(d', true), (T room, false), (.int deep, false)]) ∧ t.fits room ∧ t.size ≤ sz3 dep ∧ t.deep ≤ dep + 1 ∧ Pen3OK d' (i + pw3 dep)
theorem test3_lev (hf : Γ[f]? = some (irTest3 f_take f)) (hD : Lev Γ n (Take3C f_take)) : ∀ dep, Lev Γ (n + dep) (Test3C f dep)
  | 0 => fun k _ d i room deep _ _ h1 h2 _ => absurd h1 (by omega)
  | dep + 1 => by
    refine lev_of (n := n + dep) fun k hk d i room deep hp hr hd hd2 hi => ?_
    rw [call_at hf]
    have ih := test3_lev hf hD dep k hk
    have hD := hD k (by omega)
    have hrl := hr.1
    have hrl2 := hr.2.1
    simp only [pw3] at hi
    simp only [pw3, sz3]
    obtain ⟨p, d1, a1, a2, a3, a4⟩ := hD d i 7 hp (by omega) (by decide) (by decide)
    obtain ⟨t, d2, b1, b2, b3, b4⟩ := hD d1 _ room.length a4 (by omega) (by omega) (by omega)
    obtain ⟨w2, w4⟩ := nth_room hr b2 b3
    have eT := atT (l := room) b2 b3
    obtain ⟨w, d3, c1, c2, c3, c4⟩ := hD d2 _ (nth room t) b4 (by omega) (by omega) (by omega)
    by_cases h0 : p = 0
    · refine ⟨.yes, d3, ?_, trivial, by simp [Tst.size], by simp [Tst.deep], c4.le (by omega)⟩
      simp [irTest3, runFn, exs, ex, ev, evs, evArgs, evO, evAnd, evOr, evIt, entry, tst, truE, rdOf, tkOf, fstOf, lateOf, quiet, quiets, quietO, pers, look, keepV, readV, takeV, copV, bopV, biV, bi2V, truV, fin, okFin, finals, callNow, argsNow, argNow, lent, back, hidOf, hid2Of, VI.bind, VI.binds, tgs, tgss, asgI, asgs, wipeE, unset, keepP, items, a1, b1, eT, c1, pyEqI, pyEqS, pyEqB, pyEqSI, pyEqIS, pyEqNI, pyEqIN, pyEqNN, pyEqNil, h0, Tst.enc]
    · by_cases h1 : p < 3
      · refine ⟨.is t w, d3, ?_, ⟨⟨b2, b3⟩, c2, c3⟩, by simp [Tst.size], by simp [Tst.deep], c4.le (by omega)⟩
        simp [irTest3, runFn, exs, ex, ev, evs, evArgs, evO, evAnd, evOr, evIt, entry, tst, truE, rdOf, tkOf, fstOf, lateOf, quiet, quiets, quietO, pers, look, keepV, readV, takeV, copV, bopV, biV, bi2V, truV, fin, okFin, finals, callNow, argsNow, argNow, lent, back, hidOf, hid2Of, VI.bind, VI.binds, tgs, tgss, asgI, asgs, wipeE, unset, keepP, items, a1, b1, eT, c1, pyEqI, pyEqS, pyEqB, pyEqSI, pyEqIS, pyEqNI, pyEqIN, pyEqNN, pyEqNil, h0, h1, Tst.enc]
      · by_cases h2 : p = 3
        · obtain ⟨v, d4, e1, e2, e3, e4⟩ := hD d3 _ (nth room t - 1) c4 (by omega) (by omega) (by omega)
          refine ⟨.under t (1 + v), d4, ?_, ⟨⟨b2, b3⟩, by omega, by omega⟩, by simp [Tst.size], by simp [Tst.deep], e4.le (by omega)⟩
          simp [irTest3, runFn, exs, ex, ev, evs, evArgs, evO, evAnd, evOr, evIt, entry, tst, truE, rdOf, tkOf, fstOf, lateOf, quiet, quiets, quietO, pers, look, keepV, readV, takeV, copV, bopV, biV, bi2V, truV, fin, okFin, finals, callNow, argsNow, argNow, lent, back, hidOf, hid2Of, VI.bind, VI.binds, tgs, tgss, asgI, asgs, wipeE, unset, keepP, items, a1, b1, eT, c1, pyEqI, pyEqS, pyEqB, pyEqSI, pyEqIS, pyEqNI, pyEqIN, pyEqNN, pyEqNil, h2, e1, Tst.enc]
        · by_cases h3 : deep < 2 ∨ p = 4
          · refine ⟨.not (.is t w), d3, ?_, ⟨⟨b2, b3⟩, c2, c3⟩, by simp [Tst.size], by simp [Tst.deep], c4.le (by omega)⟩
            by_cases h4 : deep < 2
            · simp [irTest3, runFn, exs, ex, ev, evs, evArgs, evO, evAnd, evOr, evIt, entry, tst, truE, rdOf, tkOf, fstOf, lateOf, quiet, quiets, quietO, pers, look, keepV, readV, takeV, copV, bopV, biV, bi2V, truV, fin, okFin, finals, callNow, argsNow, argNow, lent, back, hidOf, hid2Of, VI.bind, VI.binds, tgs, tgss, asgI, asgs, wipeE, unset, keepP, items, a1, b1, eT, c1, pyEqI, pyEqS, pyEqB, pyEqSI, pyEqIS, pyEqNI, pyEqIN, pyEqNN, pyEqNil, h0, h1, h2, h4, Tst.enc]
            · have h5 : p = 4 := by omega
              simp [irTest3, runFn, exs, ex, ev, evs, evArgs, evO, evAnd, evOr, evIt, entry, tst, truE, rdOf, tkOf, fstOf, lateOf, quiet, quiets, quietO, pers, look, keepV, readV, takeV, copV, bopV, biV, bi2V, truV, fin, okFin, finals, callNow, argsNow, argNow, lent, back, hidOf, hid2Of, VI.bind, VI.binds, tgs, tgss, asgI, asgs, wipeE, unset, keepP, items, a1, b1, eT, c1, pyEqI, pyEqS, pyEqB, pyEqSI, pyEqIS, pyEqNI, pyEqIN, pyEqNN, pyEqNil, h4, h5, Tst.enc]
          · have h4 : ¬ deep < 2 := by omega
            obtain ⟨x, d4, e1, e2, e3, e4, e5⟩ := ih d3 _ room (deep - 1) c4 hr (by omega) (by omega) (by omega)
            obtain ⟨y, d5, g1, g2, g3, g4, g5⟩ := ih d4 _ room (deep - 1) e5 hr (by omega) (by omega) (by omega)
            have h5 : p = 5 ∨ p = 6 := by omega
            rcases h5 with rfl | rfl
            · refine ⟨.both x y, d5, ?_, ⟨e2, g2⟩, by simp [Tst.size]; omega, by simp [Tst.deep]; omega, g5.le (by omega)⟩
              simp [irTest3, runFn, exs, ex, ev, evs, evArgs, evO, evAnd, evOr, evIt, entry, tst, truE, rdOf, tkOf, fstOf, lateOf, quiet, quiets, quietO, pers, look, keepV, readV, takeV, copV, bopV, biV, bi2V, truV, fin, okFin, finals, callNow, argsNow, argNow, lent, back, hidOf, hid2Of, VI.bind, VI.binds, tgs, tgss, asgI, asgs, wipeE, unset, keepP, items, a1, b1, eT, c1, pyEqI, pyEqS, pyEqB, pyEqSI, pyEqIS, pyEqNI, pyEqIN, pyEqNN, pyEqNil, h4, e1, g1, Tst.enc]
            · refine ⟨.either x y, d5, ?_, ⟨e2, g2⟩, by simp [Tst.size]; omega, by simp [Tst.deep]; omega, g5.le (by omega)⟩
              simp [irTest3, runFn, exs, ex, ev, evs, evArgs, evO, evAnd, evOr, evIt, entry, tst, truE, rdOf, tkOf, fstOf, lateOf, quiet, quiets, quietO, pers, look, keepV, readV, takeV, copV, bopV, biV, bi2V, truV, fin, okFin, finals, callNow, argsNow, argNow, lent, back, hidOf, hid2Of, VI.bind, VI.binds, tgs, tgss, asgI, asgs, wipeE, unset, keepP, items, a1, b1, eT, c1, pyEqI, pyEqS, pyEqB, pyEqSI, pyEqIS, pyEqNI, pyEqIN, pyEqNN, pyEqNil, h4, e1, g1, Tst.enc]
def TOK (room : List Int) (t : Tst) : Prop := t.fits room ∧ t.deep ≤ 5 ∧ t.size ≤ 9
def NewTest3C (f : Nat) (C : CallF) : Prop := ∀ d i room (ms : List (Tst × Int)), Pen3OK d i → IsRoom room → (∀ p ∈ ms, TOK room p.1) → ms.length ≤ 100 → i + 18 ≤ 2147483648 →
  ∃ (t : Tst) (d' : PyData), C f [(d, true), (T room, false), (.list (ms.map movD), true)] = some (t.enc, false, [(d', true), (T room, false), (.list (ms.map movD), true)]) ∧ TOK room t ∧ Pen3OK d' (i + 18)
theorem newTest3_lev (hf : Γ[f]? = some (irNewTest3 f_take f_test)) (hD : Lev Γ n (Take3C f_take)) (hT : Lev Γ n (Test3C f_test 2)) (hT1 : Lev Γ n (Test3C f_test 1)) : Lev Γ (n + 1) (NewTest3C f) := by
  refine lev_of fun k hk d i room ms hd hr hm hl hi => ?_
  rw [call_at hf]
  have hD := hD k hk
  have hT := hT k hk
  obtain ⟨p, d1, a1, a2, a3, a4⟩ := hD d i 7 hd (by omega) (by decide) (by decide)
  obtain ⟨x, d2, b1, b2, b3, b4, b5⟩ := hT d1 _ room 2 a4 hr (by decide) (by decide) (by simp [pw3]; omega)
  have hT1 := hT1 k hk
  obtain ⟨y, d3, c1, c2, c3, c4, c5⟩ := hT1 d2 _ room 1 b5 hr (by decide) (by decide) (by simp [pw3]; omega)
  simp only [sz3, pw3] at b3 c3 b5 c5
  by_cases h0 : p = 0 ∧ ms ≠ []
  · obtain ⟨h0, h1⟩ := h0
    have hpos := List.length_pos_iff.2 h1
    obtain ⟨q, d4, e1, e2, e3, e4⟩ := hD d3 _ ms.length c5 (by omega) (by omega) (by omega)
    obtain ⟨m, m1, m2⟩ := pickG (enc := movD) (l := ms) e2 e3
    refine ⟨m.1, d4, ?_, hm m m1, e4.le (by omega)⟩
    have m3 : ixV (movD m) (.int 0) = some m.1.enc := at0
    have hne : ms.isEmpty = false := by simpa using h1
    simp [irNewTest3, runFn, exs, ex, ev, evs, evArgs, evO, evAnd, evOr, evIt, entry, tst, truE, rdOf, tkOf, fstOf, lateOf, quiet, quiets, quietO, pers, look, keepV, readV, takeV, copV, bopV, biV, bi2V, truV, fin, okFin, finals, callNow, argsNow, argNow, lent, back, hidOf, hid2Of, VI.bind, VI.binds, tgs, tgss, asgI, asgs, wipeE, unset, keepP, items, a1, b1, c1, pyEqI, pyEqS, pyEqB, pyEqSI, pyEqIS, pyEqNI, pyEqIN, pyEqNN, pyEqNil, h0, hne, e1, m2, m3]
  · by_cases h1 : p = 1
    · refine ⟨.both y (.not y), d3, ?_, ⟨⟨c2, c2⟩, by simp [Tst.deep]; omega, by simp [Tst.size]; omega⟩, c5.le (by omega)⟩
      simp [irNewTest3, runFn, exs, ex, ev, evs, evArgs, evO, evAnd, evOr, evIt, entry, tst, truE, rdOf, tkOf, fstOf, lateOf, quiet, quiets, quietO, pers, look, keepV, readV, takeV, copV, bopV, biV, bi2V, truV, fin, okFin, finals, callNow, argsNow, argNow, lent, back, hidOf, hid2Of, VI.bind, VI.binds, tgs, tgss, asgI, asgs, wipeE, unset, keepP, items, a1, b1, c1, pyEqI, pyEqS, pyEqB, pyEqSI, pyEqIS, pyEqNI, pyEqIN, pyEqNN, pyEqNil, h1, Tst.enc]
    · by_cases h2 : p = 2
      · refine ⟨.either y (.not y), d3, ?_, ⟨⟨c2, c2⟩, by simp [Tst.deep]; omega, by simp [Tst.size]; omega⟩, c5.le (by omega)⟩
        simp [irNewTest3, runFn, exs, ex, ev, evs, evArgs, evO, evAnd, evOr, evIt, entry, tst, truE, rdOf, tkOf, fstOf, lateOf, quiet, quiets, quietO, pers, look, keepV, readV, takeV, copV, bopV, biV, bi2V, truV, fin, okFin, finals, callNow, argsNow, argNow, lent, back, hidOf, hid2Of, VI.bind, VI.binds, tgs, tgss, asgI, asgs, wipeE, unset, keepP, items, a1, b1, c1, pyEqI, pyEqS, pyEqB, pyEqSI, pyEqIS, pyEqNI, pyEqIN, pyEqNN, pyEqNil, h2, Tst.enc]
      · refine ⟨x, d3, ?_, ⟨b2, by omega, by omega⟩, c5.le (by omega)⟩
        by_cases h3 : p = 0
        · have h4 : ms = [] := by
            by_cases h : ms = []
            · exact h
            · exact absurd ⟨h3, h⟩ h0
          subst h4
          simp [irNewTest3, runFn, exs, ex, ev, evs, evArgs, evO, evAnd, evOr, evIt, entry, tst, truE, rdOf, tkOf, fstOf, lateOf, quiet, quiets, quietO, pers, look, keepV, readV, takeV, copV, bopV, biV, bi2V, truV, fin, okFin, finals, callNow, argsNow, argNow, lent, back, hidOf, hid2Of, VI.bind, VI.binds, tgs, tgss, asgI, asgs, wipeE, unset, keepP, items, a1, b1, c1, pyEqI, pyEqS, pyEqB, pyEqSI, pyEqIS, pyEqNI, pyEqIN, pyEqNN, pyEqNil, h3]
        · simp [irNewTest3, runFn, exs, ex, ev, evs, evArgs, evO, evAnd, evOr, evIt, entry, tst, truE, rdOf, tkOf, fstOf, lateOf, quiet, quiets, quietO, pers, look, keepV, readV, takeV, copV, bopV, biV, bi2V, truV, fin, okFin, finals, callNow, argsNow, argNow, lent, back, hidOf, hid2Of, VI.bind, VI.binds, tgs, tgss, asgI, asgs, wipeE, unset, keepP, items, a1, b1, c1, pyEqI, pyEqS, pyEqB, pyEqSI, pyEqIS, pyEqNI, pyEqIN, pyEqNN, pyEqNil, h1, h2, h3]
theorem cls3_mov {d : PyData} {i : Nat} {room : List Int} {many c : Int} {ms : List (Tst × Int)} {s5 s6 s7 s8 s9 : Slot} (hD : Take3C f_take C) (hN : NewTest3C f_new C) (hd : Pen3OK d i) (hr : IsRoom room) (hm : ∀ p ∈ ms, MovOK room many c p) (h0 : 0 ≤ c) (h1 : c < many) (h2 : 1 < many) (h6 : many ≤ 6) (hl : ms.length ≤ 4) (hi : i + 19 ≤ 2147483648) :
    ∃ (d' : PyData) (m : Tst × Int), exs C (irClass3_b1 f_new f_take) [some (d, .b), some (T room, .p), some (.int many, .p), some (.int c, .p), some (.list (ms.map movD), .o), s5, s6, s7, s8, s9] =
      some (.nx, [some (d', .b), some (T room, .p), some (.int many, .p), some (.int c, .p), some (.list ((ms ++ [m]).map movD), .o), s5, s6, s7, s8, s9]) ∧ MovOK room many c m ∧ Pen3OK d' (i + 19) := by
  obtain ⟨t, d1, a1, a2, a3⟩ := hN d i room ms hd hr (fun p hp => ⟨(hm p hp).fits, (hm p hp).deep, (hm p hp).size⟩) (by omega) (by omega)
  obtain ⟨q, d2, c1, c2, c3, c4⟩ := hD d1 _ (many - 1) a3 (by omega) (by omega) (by omega)
  have hs : ms.length < sizeLine := sizeLine_big (n := ms.length + 1) (by omega)
  have hw := fmod_wrap (x := c + 1 + q) (m := many) (by omega) (by omega) (by omega)
  have hne : many ≠ 0 := by omega
  have hb : 0 ≤ (c + 1 + q).fmod many ∧ (c + 1 + q).fmod many < many ∧ (c + 1 + q).fmod many ≠ c := by
    rw [hw]
    split <;> omega
  refine ⟨d2, (t, (c + 1 + q).fmod many), ?_, ⟨a2.1, a2.2.1, a2.2.2, hb.1, hb.2.1, hb.2.2⟩, c4.le (by omega)⟩
  simp [irClass3_b1, runFn, exs, ex, ev, evs, evArgs, evO, evAnd, evOr, evIt, entry, tst, truE, rdOf, tkOf, fstOf, lateOf, quiet, quiets, quietO, pers, look, keepV, readV, takeV, copV, bopV, biV, bi2V, truV, fin, okFin, finals, callNow, argsNow, argNow, lent, back, hidOf, hid2Of, VI.bind, VI.binds, tgs, tgss, asgI, asgs, wipeE, unset, keepP, items, a1, c1, muV, appendV, hs, movD, hne]
theorem cls3_split {d : PyData} {i : Nat} {room : List Int} {s2 s3 s4 s5 s7 s8 s9 : Slot} {ss : List (Int × Int × Int)} (hD : Take3C f_take C) (hd : Pen3OK d i) (hr : IsRoom room) (hl : ss.length ≤ 4) (hi : i + 5 ≤ 2147483648) :
    ∃ (d' : PyData) (x : Int × Int × Int) (s7' : Slot), exs C (irClass3_b2 f_take) [some (d, .b), some (T room, .p), s2, s3, s4, s5, some (.list (ss.map splitD), .o), s7, s8, s9] =
      some (.nx, [some (d', .b), some (T room, .p), s2, s3, s4, s5, some (.list ((ss ++ [x]).map splitD), .o), s7', s8, s9]) ∧ SplitOK room x ∧ Pen3OK d' (i + 5) := by
  have hrl := hr.1
  have hrl2 := hr.2.1
  have hs : ss.length < sizeLine := sizeLine_big (n := ss.length + 1) (by omega)
  obtain ⟨r1, d1, a1, a2, a3, a4⟩ := hD d i 2 hd (by omega) (by decide) (by decide)
  obtain ⟨x, hm, hx⟩ := pick (l := [3, 8]) a2 (by simpa using a3)
  have hx2 : 3 ≤ x ∧ x ≤ 8 := by simp at hm; omega
  obtain ⟨u, d2, b1, b2, b3, b4⟩ := hD d1 _ x a4 (by omega) (by omega) (by omega)
  obtain ⟨t, d3, c1, c2, c3, c4⟩ := hD d2 _ room.length b4 (by omega) (by omega) (by omega)
  obtain ⟨r2, d4, e1, e2, e3, e4⟩ := hD d3 _ 3 c4 (by omega) (by decide) (by decide)
  obtain ⟨y, hn, hy⟩ := pick (l := [2, 4, 8]) e2 (by simpa using e3)
  have hy2 : 2 ≤ y ∧ y ≤ 8 := by simp at hn; omega
  obtain ⟨v, d5, g1, g2, g3, g4⟩ := hD d4 _ y e4 (by omega) (by omega) (by omega)
  refine ⟨d5, (t, 1 + u, 1 + v), some (.int (1 + u), .p), ?_, ⟨⟨c2, c3⟩, ⟨by dsimp only; omega, by dsimp only; omega⟩, by dsimp only; omega, by dsimp only; omega⟩, g4.le (by omega)⟩
  simp at hx hy
  simp [irClass3_b2, runFn, exs, ex, ev, evs, evArgs, evO, evAnd, evOr, evIt, entry, tst, truE, rdOf, tkOf, fstOf, lateOf, quiet, quiets, quietO, pers, look, keepV, readV, takeV, copV, bopV, biV, bi2V, truV, fin, okFin, finals, callNow, argsNow, argNow, lent, back, hidOf, hid2Of, VI.bind, VI.binds, tgs, tgss, asgI, asgs, wipeE, unset, keepP, items, a1, hx, b1, c1, e1, hy, g1, muV, appendV, hs, splitD]
def Class3C (f : Nat) (C : CallF) : Prop := ∀ d i room (many c : Int), Pen3OK d i → IsRoom room → 0 ≤ c → c < many → many ≤ 6 → i + 100 ≤ 2147483648 →
  ∃ (cl : Cls) (d' : PyData), C f [(d, true), (T room, false), (.int many, false), (.int c, false)] = some (cl.enc, false, [(d', true), (T room, false), (.int many, false), (.int c, false)]) ∧ ClsOK room many c cl ∧ Pen3OK d' (i + 100)
theorem class3_lev (hf : Γ[f]? = some (irClass3 f_take f_new)) (hD : Lev Γ n (Take3C f_take)) (hN : Lev Γ n (NewTest3C f_new)) : Lev Γ (n + 1) (Class3C f) := by
  refine lev_of fun k hk d i room many c hd hr h0 h1 h6 hi => ?_
  rw [call_at hf]
  have hD := hD k hk
  have hN := hN k hk
  obtain ⟨r, d1, a1, a2, a3, a4⟩ := hD d i 5 hd (by omega) (by decide) (by decide)
  obtain ⟨z, hz, hz0, hz4, hz1⟩ : ∃ z : Int, r * (if 1 < many then 1 else 0) = z ∧ 0 ≤ z ∧ z ≤ 4 ∧ (0 < z → 1 < many) := by
    by_cases h : 1 < many
    · exact ⟨r, by simp [h], a2, by omega, fun _ => h⟩
    · exact ⟨0, by simp [h], by omega, by omega, fun h => by omega⟩
  obtain ⟨env1, b1, d2, ms, s5, rfl, b2, b3, b4⟩ := forL_pre (t := .nm 5) (b := exs (call Γ k) (irClass3_b1 f_new f_take)) (fun (i : Nat) => PyData.int i) (fun pre env => ∃ d' ms s5, env = [some (d', .b), some (T room, .p), some (.int many, .p), some (.int c, .p), some (.list (ms.map movD), .o), s5, none, none, none, none] ∧ (∀ p ∈ ms, MovOK room many c p) ∧ ms.length = pre.length ∧ Pen3OK d' (i + 1 + 19 * pre.length))
    (all := List.range z.toNat) (ys := List.range z.toNat) (pre := []) (env := [some (d1, .b), some (T room, .p), some (.int many, .p), some (.int c, .p), some (.list [], .o), none, none, none, none, none]) rfl ⟨d1, [], none, rfl, by simp, by simp, a4⟩ (by
      rintro pre y post env ha ⟨d2, ms, s5, rfl, hm, hl, hp⟩
      have hl2 := congrArg List.length ha
      simp at hl2
      obtain ⟨d3, m, e1, e2, e3⟩ := cls3_mov (C := call Γ k) (ms := ms) (s5 := some (.int y, .p)) (s6 := none) (s7 := none) (s8 := none) (s9 := none) hD hN hp hr hm h0 h1 (hz1 (by omega)) h6 (by omega) (by omega)
      refine ⟨_, _, rfl, Or.inl e1, d3, ms ++ [m], _, rfl, ?_, by simp [hl], e3.le (by simp; omega)⟩
      intro p hp
      rcases List.mem_append.1 hp with h | h
      · exact hm p h
      · simp at h; subst h; exact e2)
  simp at b3 b4
  have b4 := b4.le (j := i + 77) (by omega)
  obtain ⟨q, d3, c1, c2, c3, c4⟩ := hD d2 _ 3 b4 (by omega) (by decide) (by decide)
  obtain ⟨env2, e1, d4, ss, s5', s7', rfl, e2, e3, e4⟩ := forL_pre (t := .nm 5) (b := exs (call Γ k) (irClass3_b2 f_take)) (fun (i : Nat) => PyData.int i) (fun pre env => ∃ d' ss s5 s7, env = [some (d', .b), some (T room, .p), some (.int many, .p), some (.int c, .p), some (.list (ms.map movD), .o), s5, some (.list (ss.map splitD), .o), s7, none, none] ∧ (∀ p ∈ ss, SplitOK room p) ∧ ss.length = pre.length ∧ Pen3OK d' (i + 78 + 5 * pre.length))
    (all := List.range q.toNat) (ys := List.range q.toNat) (pre := []) (env := [some (d3, .b), some (T room, .p), some (.int many, .p), some (.int c, .p), some (.list (ms.map movD), .o), s5, some (.list [], .o), none, none, none]) rfl ⟨d3, [], s5, none, rfl, by simp, by simp, c4.le (by simp)⟩ (by
      rintro pre y post env ha ⟨d2, ss, s5, s7, rfl, hm, hl, hp⟩
      have hl2 := congrArg List.length ha
      simp at hl2
      obtain ⟨d3, x, s7', g1, g2, g3⟩ := cls3_split (C := call Γ k) (s2 := some (.int many, .p)) (s3 := some (.int c, .p)) (s4 := some (.list (ms.map movD), .o)) (s5 := some (.int y, .p)) (s7 := s7) (s8 := none) (s9 := none) (ss := ss) hD hp hr (by omega) (by omega)
      refine ⟨_, _, rfl, Or.inl g1, d3, ss ++ [x], _, s7', rfl, ?_, by simp; omega, g3.le (by simp; omega)⟩
      intro p hp
      rcases List.mem_append.1 hp with h | h
      · exact hm p h
      · simp at h; subst h; exact g2)
  simp at e3 e4
  have e4 := e4.le (j := i + 88) (by omega)
  obtain ⟨same, d5, o1, o2, o3, o4⟩ := hD d4 _ 100 e4 (by omega) (by decide) (by decide)
  obtain ⟨w, d6, g1, g2, g3, g4⟩ := hD d5 _ 3 o4 (by omega) (by decide) (by decide)
  obtain ⟨ps, env3, m1, m2, m3, d7, rfl, m4⟩ := compL_draws (C := call Γ k) (t := .nm 5) (own := [5]) (e := ev (call Γ k) (irClass3_e1 f_take)) (fun (i : Nat) => PyData.int i) PyData.int (fun (w : Int) => 0 ≤ w ∧ w ≤ 99)
      (fun j env => ∃ d', env = [some (d', .b), some (T room, .p), some (.int many, .p), some (.int c, .p), some (.list (ms.map movD), .o), none, some (.list (ss.map splitD), .o), s7', some (.int same, .p), none] ∧ Pen3OK d' (i + 90 + 2 * j)) (ys := List.range (1 + w).toNat) (acc := []) (j := 0) (env := [some (d6, .b), some (T room, .p), some (.int many, .p), some (.int c, .p), some (.list (ms.map movD), .o), none, some (.list (ss.map splitD), .o), s7', some (.int same, .p), none]) ⟨d6, rfl, g4.le (by simp)⟩ (by
        rintro j y env hy ⟨d2, rfl, hp⟩
        obtain ⟨hj, hjy⟩ := List.getElem?_eq_some_iff.1 hy
        simp at hj hjy
        obtain ⟨u, e1, p1, p2, p3, p4⟩ := hD d2 _ 100 hp (by omega) (by decide) (by decide)
        obtain ⟨x, e3, r1, r2, r3, r4⟩ := hD e1 _ 4 p4 (by omega) (by decide) (by decide)
        obtain ⟨z, hm, hx⟩ := pick (l := [u, same, 3 - (y : Int), 0]) r2 (by simpa using r3)
        have hz : 0 ≤ z ∧ z ≤ 99 := by simp at hm; omega
        simp at hx
        refine ⟨_, z, false, [some (e3, .b), some (T room, .p), some (.int many, .p), some (.int c, .p), some (.list (ms.map movD), .o), some (.int y, .p), some (.list (ss.map splitD), .o), s7', some (.int same, .p), none], rfl, ?_, hz, e3, rfl, r4.le (by omega)⟩
        simp [irClass3_e1, runFn, exs, ex, ev, evs, evArgs, evO, evAnd, evOr, evIt, entry, tst, truE, rdOf, tkOf, fstOf, lateOf, quiet, quiets, quietO, pers, look, keepV, readV, takeV, copV, bopV, biV, bi2V, truV, fin, okFin, finals, callNow, argsNow, argNow, lent, back, hidOf, hid2Of, VI.bind, VI.binds, tgs, tgss, asgI, asgs, wipeE, unset, keepP, items, p1, r1, hx]) (sizeLine_big (by simp; omega))
  simp at m1 m2 m4
  refine ⟨⟨ms, ss, ps⟩, d7, ?_, ⟨b2, by dsimp only; omega, e2, by dsimp only; omega, m3, by dsimp only; omega, by dsimp only; omega⟩, m4.le (by omega)⟩
  have z0 : r.natAbs < 18446744073709551616 := by omega
  have z1 : int62 z = true := by simp only [int62, decide_eq_true_eq]; omega
  have z2 : int62 q = true := by simp only [int62, decide_eq_true_eq]; omega
  have z3 : int62 (1 + w) = true := by simp only [int62, decide_eq_true_eq]; omega
  cases s5' with
  | none => simp [irClass3, runFn, exs, ex, ev, evs, evArgs, evO, evAnd, evOr, evIt, entry, tst, truE, rdOf, tkOf, fstOf, lateOf, quiet, quiets, quietO, pers, look, keepV, readV, takeV, copV, bopV, biV, bi2V, truV, fin, okFin, finals, callNow, argsNow, argNow, lent, back, hidOf, hid2Of, VI.bind, VI.binds, tgs, tgss, asgI, asgs, wipeE, unset, keepP, items, a1, hz, z0, z1, rngD0, b1, c1, z2, e1, o1, g1, z3, m1, Cls.enc]
  | some p =>
    obtain ⟨pd, pf⟩ := p
    cases pf <;> simp [irClass3, runFn, exs, ex, ev, evs, evArgs, evO, evAnd, evOr, evIt, entry, tst, truE, rdOf, tkOf, fstOf, lateOf, quiet, quiets, quietO, pers, look, keepV, readV, takeV, copV, bopV, biV, bi2V, truV, fin, okFin, finals, callNow, argsNow, argNow, lent, back, hidOf, hid2Of, VI.bind, VI.binds, tgs, tgss, asgI, asgs, wipeE, unset, keepP, items, a1, hz, z0, z1, rngD0, b1, c1, z2, e1, o1, g1, z3, m1, Cls.enc]
end
end VI
set_option maxRecDepth 100000
set_option maxHeartbeats 4000000
/-! Cups and shows of the third kind. -/
namespace VI
open PySem
/-- 0:_law_pen_here 1:_law_many 2:_law_cup_here 3:_law_of 4:_law_c 5:_law_left 6:_law_steps 7:_law_k 8:_law_without 9:_law_other -/
def irCup3_e1 : IE := (.var 4)
def irCup3_c1 (f__law_take : Nat) : List IE := [(.cmp .gt (.call f__law_take [(.var 0), (.cst (.int 3))]) (.cst (.int 0)))]
def irCup3_b1 (f__law_take : Nat) : List IS := [(.ex (.mu .append 6 [(.tup [(.mu .pop 5 [(.call f__law_take [(.var 0), (.bi .len (.var 5))])]), (.ix (.lst [(.cst (.int 1)), (.cst (.int 1)), (.neg (.cst (.int 1)))]) (.call f__law_take [(.var 0), (.cst (.int 3))]))])]))]
def irCup3_e2 : IE := (.var 9)
def irCup3_c2 (f__law_take : Nat) : List IE := [(.cmp .eq (.call f__law_take [(.var 0), (.cst (.int 4))]) (.cst (.int 0)))]
@[simp] theorem irCup3_b1_asgs {f__law_take : Nat} : asgs (irCup3_b1 f__law_take) = [] := by rfl
def irCup3 (f__law_take : Nat) : Fn := ⟨3, 10,
   [(.asg (.nm 3) (.bi .tuple (.cmpr irCup3_e1 (.nm 4) (.rng1 (.var 1)) (irCup3_c1 f__law_take)))),
    (.ifs (.cmp .eq (.var 3) (.tup [])) [(.asg (.nm 3) (.tup [(.call f__law_take [(.var 0), (.var 1)])]))] []),
    (.asg (.nm 5) (.lst [(.cst (.str "points")), (.cst (.str "firsts")), (.cst (.str "seconds")), (.cst (.str "thirds")), (.cst (.str "prizes")), (.cst (.str "entries"))])),
    (.asg (.nm 6) (.lst [])),
    (.for_ (.nm 7) (.rng1 (.bop .add (.cst (.int 1)) (.call f__law_take [(.var 0), (.cst (.int 4))]))) (irCup3_b1 f__law_take)),
    (.asg (.nm 8) (.bi .tuple (.cmpr irCup3_e2 (.nm 9) (.rng1 (.var 2)) (irCup3_c2 f__law_take)))),
    (.ret (.tup [(.var 3), (.bi .tuple (.var 6)), (.var 8)]))], [3, 3, 5, 6, 7, 8]⟩
/-- 0:_law_pen_here 1:_law_classes 2:_law_cups 3:_law_room 4:_law_k 5:_law_size 6:_law_worths 7:_law_many 8:_law_rows 9:_law_c 10:_law_cup_here -/
def irShow3_e1 (f__law_take : Nat) : IE := (.bop .add (.cst (.int 2)) (.call f__law_take [(.var 0), (.cst (.int 3))]))
def irShow3_b1 : List IS := [(.asg (.nm 5) (.bop .mul (.var 5) (.var 6)))]
def irShow3_e2 (f__law_class : Nat) : IE := (.call f__law_class [(.var 0), (.var 3), (.var 7), (.var 9)])
def irShow3_e3 (f__law_cup : Nat) : IE := (.call f__law_cup [(.var 0), (.var 7), (.var 10)])
@[simp] theorem irShow3_b1_asgs : asgs irShow3_b1 = [5] := by rfl
def irShow3 (f__law_take f__law_class f__law_cup : Nat) : Fn := ⟨3, 11,
   [(.asg (.nm 3) (.bi .tuple (.cmpr (irShow3_e1 f__law_take) (.nm 4) (.rng1 (.bop .add (.cst (.int 1)) (.call f__law_take [(.var 0), (.cst (.int 3))]))) []))),
    (.asg (.nm 5) (.cst (.int 1))),
    (.for_ (.nm 6) (.hid 3) irShow3_b1),
    (.asg (.nm 7) (.bop .add (.cst (.int 1)) (.call f__law_take [(.var 0), (.bi2 .min2 (.var 1) (.bop .fdiv (.cst (.int 144)) (.var 5)))]))),
    (.asg (.nm 8) (.bi .tuple (.cmpr (irShow3_e2 f__law_class) (.nm 9) (.rng1 (.var 7)) []))),
    (.ret (.tup [(.var 3), (.var 8), (.bi .tuple (.cmpr (irShow3_e3 f__law_cup) (.nm 10) (.rng1 (.call f__law_take [(.var 0), (.bop .add (.var 2) (.cst (.int 1)))])) []))]))], [3, 5, 6, 5, 7, 8]⟩
section
variable {Γ : List Fn} {f n f_take f_class f_cup : Nat} {C : CallF}
theorem eqT0 (l : List Int) : pyEq (T l) (.tuple []) = some l.isEmpty := by
  have h : min (PyData.depth (.tuple (l.map .int))) (PyData.depth (.tuple [])) ≤ 64 := by
    simp [PyData.depth, ints_depth]
  cases l with
  | nil => rfl
  | cons x l =>
    have h2 := lay_ints (x :: l)
    simp only [pyEq, PyData.canLay0, h2, h, decide_true, Bool.and_true, if_true]
    simp [PyData.canLayAll0, PyData.eqv, PyData.eqvAll]
theorem erase_str : ∀ (l : List Str) (m : Nat), (l.map PyData.str).eraseIdx m = (l.eraseIdx m).map .str
  | [], _ => rfl
  | x :: l, 0 => rfl
  | x :: l, m + 1 => by simp [erase_str l m]
theorem cup3_step {d : PyData} {i : Nat} {many k : Int} {left : List Str} {st : List (Str × Int)} {s3 s4 s7 s8 s9 : Slot} (hD : Take3C f_take C) (hd : Pen3OK d i) (hl : 0 < left.length) (hl6 : left.length ≤ 6) (hs : st.length ≤ 10) (hi : i + 2 ≤ 2147483648) :
    ∃ (d' : PyData) (m : Nat) (hm : m < left.length) (z : Int), exs C (irCup3_b1 f_take) [some (d, .b), some (.int many, .p), some (.int k, .p), s3, s4, some (.list (left.map .str), .o), some (.list (st.map stepD), .o), s7, s8, s9] =
      some (.nx, [some (d', .b), some (.int many, .p), some (.int k, .p), s3, s4, some (.list ((left.eraseIdx m).map .str), .o), some (.list ((st ++ [(left[m], z)]).map stepD), .o), s7, s8, s9]) ∧ (z = 1 ∨ z = -1) ∧ Pen3OK d' (i + 2) := by
  obtain ⟨r, d1, a1, a2, a3, a4⟩ := hD d i left.length hd (by omega) (by omega) (by omega)
  obtain ⟨m, rfl⟩ : ∃ m : Nat, r = m := ⟨r.toNat, by omega⟩
  have hm : m < left.length := by omega
  obtain ⟨q, d2, c1, c2, c3, c4⟩ := hD d1 _ 3 a4 (by omega) (by decide) (by decide)
  obtain ⟨z, hz, hx⟩ := pick (l := [1, 1, -1]) c2 (by simpa using c3)
  have hz : z = 1 ∨ z = -1 := by simp at hz; exact hz
  have hs2 : st.length < sizeLine := sizeLine_big (n := st.length + 1) (by omega)
  have e1 : L2.ixN left.length (m : Int) = some m := by
    unfold L2.ixN
    simp
    omega
  have e3 : (left.map PyData.str)[m]? = some (.str left[m]) := by simp [List.getElem?_eq_getElem hm]
  have e4 : (left.map PyData.str).eraseIdx m = (left.eraseIdx m).map .str := erase_str left m
  refine ⟨d2, m, hm, z, ?_, hz, c4.le (by omega)⟩
  simp at hx
  simp [irCup3_b1, runFn, exs, ex, ev, evs, evArgs, evO, evAnd, evOr, evIt, entry, tst, truE, rdOf, tkOf, fstOf, lateOf, quiet, quiets, quietO, pers, look, keepV, readV, takeV, copV, bopV, biV, bi2V, truV, fin, okFin, finals, callNow, argsNow, argNow, lent, back, hidOf, hid2Of, VI.bind, VI.binds, tgs, tgss, asgI, asgs, wipeE, unset, keepP, items, a1, muV, popV, appendV, e1, e4, hm, show m < 9223372036854775808 by omega, c1, hx, hs2, stepD]
def Cup3C (f : Nat) (C : CallF) : Prop := ∀ d i (many k : Int), Pen3OK d i → 1 ≤ many → many ≤ 6 → 0 ≤ k → k ≤ 6 → i + 22 ≤ 2147483648 →
  ∃ (cu : Cup) (d' : PyData), C f [(d, true), (.int many, false), (.int k, false)] = some (cu.enc, false, [(d', true), (.int many, false), (.int k, false)]) ∧ CupOK many k cu ∧ Pen3OK d' (i + 22)
theorem eraseS_perm : ∀ {l : List Str} {m : Nat} (h : m < l.length), (l[m] :: l.eraseIdx m).Perm l
  | x :: l, 0, _ => List.Perm.refl _
  | x :: l, m + 1, h => by
    have ih := eraseS_perm (l := l) (m := m) (by simpa using h)
    simp only [List.getElem_cons_succ, List.eraseIdx_cons_succ]
    exact (List.Perm.swap x _ _).trans (List.Perm.cons x ih)
theorem rngI_range (n : Int) : (List.range n.toNat).map (fun (i : Nat) => PyData.int i) = (rngI n).map .int := by simp [rngI]
theorem cup3_lev (hf : Γ[f]? = some (irCup3 f_take)) (hD : Lev Γ n (Take3C f_take)) : Lev Γ (n + 1) (Cup3C f) := by
  refine lev_of fun j hj d i many k hd h1 h6 k0 k6 hi => ?_
  rw [call_at hf]
  have hD := hD j hj
  have lm : (rngI many).length ≤ 6 := by simp [rngI]; omega
  have lk : (rngI k).length ≤ 6 := by simp [rngI]; omega
  obtain ⟨o, env1, b1, b2, d1, rfl, b3⟩ := compL_sub (t := .nm 4) (own := [4]) (cs := evCs (call Γ j) (irCup3_c1 f_take)) (e := ev (call Γ j) irCup3_e1) PyData.int PyData.int (fun a env => ∃ d', env = [some (d', .b), some (.int many, .p), some (.int k, .p), none, none, none, none, none, none, none] ∧ Pen3OK d' (i + a)) (ys := rngI many) (acc := []) (j := 0)
    (env := [some (d, .b), some (.int many, .p), some (.int k, .p), none, none, none, none, none, none, none]) ⟨d, rfl, hd⟩ (by
      rintro a y env hy ⟨d2, rfl, hp⟩
      have hj := (List.getElem?_eq_some_iff.1 hy).1
      obtain ⟨r, d3, c1, c2, c3, c4⟩ := hD d2 _ 3 hp (by omega) (by decide) (by decide)
      refine ⟨_, decide (0 < r), [some (d3, .b), some (.int many, .p), some (.int k, .p), none, some (.int y, .p), none, none, none, none, none], rfl, ?_, fun _ => ⟨d3, rfl, c4.le (by omega)⟩, fun _ => ⟨false, [some (d3, .b), some (.int many, .p), some (.int k, .p), none, some (.int y, .p), none, none, none, none, none], ?_, d3, rfl, c4.le (by omega)⟩⟩
      · by_cases h : 0 < r <;> simp [irCup3_c1, evCs, runFn, exs, ex, ev, evs, evArgs, evO, evAnd, evOr, evIt, entry, tst, truE, rdOf, tkOf, fstOf, lateOf, quiet, quiets, quietO, pers, look, keepV, readV, takeV, copV, bopV, biV, bi2V, truV, fin, okFin, finals, callNow, argsNow, argNow, lent, back, hidOf, hid2Of, VI.bind, VI.binds, tgs, tgss, asgI, asgs, wipeE, unset, keepP, items, c1, pyEqI, pyEqS, pyEqB, pyEqSI, pyEqIS, pyEqNI, pyEqIN, pyEqNN, pyEqNil, h]
      · simp [irCup3_e1, runFn, exs, ex, ev, evs, evArgs, evO, evAnd, evOr, evIt, entry, tst, truE, rdOf, tkOf, fstOf, lateOf, quiet, quiets, quietO, pers, look, keepV, readV, takeV, copV, bopV, biV, bi2V, truV, fin, okFin, finals, callNow, argsNow, argNow, lent, back, hidOf, hid2Of, VI.bind, VI.binds, tgs, tgss, asgI, asgs, wipeE, unset, keepP, items]) (sizeLine_big (by simp; omega))
  have b3 := b3.le (j := i + 6) (by omega)
  obtain ⟨of_, d2, o1, o2, o3, o4⟩ : ∃ (of_ : List Int) (d2 : PyData), ex (call Γ j) (.ifs (.cmp .eq (.var 3) (.tup [])) [(.asg (.nm 3) (.tup [(.call f_take [(.var 0), (.var 1)])]))] []) [some (d1, .b), some (.int many, .p), some (.int k, .p), some (T o, .p), none, none, none, none, none, none] =
      some (.nx, [some (d2, .b), some (.int many, .p), some (.int k, .p), some (T of_, .p), none, none, none, none, none, none]) ∧ of_.Sublist (rngI many) ∧ of_ ≠ [] ∧ Pen3OK d2 (i + 7) := by
    have eq := eqT0 o
    cases o with
    | nil =>
      obtain ⟨r, d2, b1, b2, b3, b4⟩ := hD d1 _ many b3 (by omega) (by omega) (by omega)
      refine ⟨[r], d2, by simp [runFn, exs, ex, ev, evs, evArgs, evO, evAnd, evOr, evIt, entry, tst, truE, rdOf, tkOf, fstOf, lateOf, quiet, quiets, quietO, pers, look, keepV, readV, takeV, copV, bopV, biV, bi2V, truV, fin, okFin, finals, callNow, argsNow, argNow, lent, back, hidOf, hid2Of, VI.bind, VI.binds, tgs, tgss, asgI, asgs, wipeE, unset, keepP, items, eq, b1], ?_, by simp, b4⟩
      rw [List.singleton_sublist]
      exact mem_rngI.2 ⟨b2, b3⟩
    | cons x o => exact ⟨x :: o, d1, by simp [runFn, exs, ex, ev, evs, evArgs, evO, evAnd, evOr, evIt, entry, tst, truE, rdOf, tkOf, fstOf, lateOf, quiet, quiets, quietO, pers, look, keepV, readV, takeV, copV, bopV, biV, bi2V, truV, fin, okFin, finals, callNow, argsNow, argNow, lent, back, hidOf, hid2Of, VI.bind, VI.binds, tgs, tgss, asgI, asgs, wipeE, unset, keepP, items, eq], b2, by simp, b3.le (by omega)⟩
  obtain ⟨q, d3, q1, q2, q3, q4⟩ := hD d2 _ 4 o4 (by omega) (by decide) (by decide)
  obtain ⟨env2, s1, d4, left, st, s7, rfl, s2, s3, s4, s5⟩ := forL_pre (t := .nm 7) (b := exs (call Γ j) (irCup3_b1 f_take)) (fun (i : Nat) => PyData.int i) (fun pre env => ∃ d' left st s7, env = [some (d', .b), some (.int many, .p), some (.int k, .p), some (T of_, .p), none, some (.list (left.map .str), .o), some (.list (st.map stepD), .o), s7, none, none] ∧ (st.map (·.1) ++ left).Perm measuresL ∧ st.length = pre.length ∧ (∀ s ∈ st, s.2 = 1 ∨ s.2 = -1) ∧ Pen3OK d' (i + 8 + 2 * pre.length))
    (all := List.range (1 + q).toNat) (ys := List.range (1 + q).toNat) (pre := []) (env := [some (d3, .b), some (.int many, .p), some (.int k, .p), some (T of_, .p), none, some (.list (measuresL.map .str), .o), some (.list [], .o), none, none, none]) rfl ⟨d3, measuresL, [], none, rfl, List.Perm.refl _, rfl, by simp, q4⟩ (by
      rintro pre y post env ha ⟨d2, left, st, s7, rfl, hp, hl, hz, hq⟩
      have hl2 := congrArg List.length ha
      simp at hl2
      have hpl := hp.length_eq
      simp [measuresL] at hpl
      obtain ⟨d3, m, hm, z, g1, g2, g3⟩ := cup3_step (C := call Γ j) (many := many) (k := k) (left := left) (st := st) (s3 := some (T of_, .p)) (s4 := none) (s7 := some (.int y, .p)) (s8 := none) (s9 := none) hD hq (by omega) (by omega) (by omega) (by omega)
      refine ⟨_, _, rfl, Or.inl g1, d3, left.eraseIdx m, st ++ [(left[m], z)], _, rfl, ?_, by simp [hl], ?_, g3.le (by simp; omega)⟩
      · rw [List.map_append, List.append_assoc]
        exact (List.Perm.append_left _ (eraseS_perm hm)).trans hp
      · intro s hs
        rcases List.mem_append.1 hs with h | h
        · exact hz s h
        · simp at h; subst h; exact g2)
  simp at s3 s5
  have s5 := s5.le (j := i + 16) (by omega)
  obtain ⟨w, env3, w1, w2, d5, rfl, w3⟩ := compL_sub (t := .nm 9) (own := [9]) (cs := evCs (call Γ j) (irCup3_c2 f_take)) (e := ev (call Γ j) irCup3_e2) PyData.int PyData.int (fun a env => ∃ d', env = [some (d', .b), some (.int many, .p), some (.int k, .p), some (T of_, .p), none, some (.list (left.map .str), .o), some (.list (st.map stepD), .o), s7, none, none] ∧ Pen3OK d' (i + 16 + a)) (ys := rngI k) (acc := []) (j := 0)
    (env := [some (d4, .b), some (.int many, .p), some (.int k, .p), some (T of_, .p), none, some (.list (left.map .str), .o), some (.list (st.map stepD), .o), s7, none, none]) ⟨d4, rfl, s5⟩ (by
      rintro a y env hy ⟨d2, rfl, hp⟩
      have hj := (List.getElem?_eq_some_iff.1 hy).1
      obtain ⟨r, d3, c1, c2, c3, c4⟩ := hD d2 _ 4 hp (by omega) (by decide) (by decide)
      refine ⟨_, decide (r = 0), [some (d3, .b), some (.int many, .p), some (.int k, .p), some (T of_, .p), none, some (.list (left.map .str), .o), some (.list (st.map stepD), .o), s7, none, some (.int y, .p)], rfl, ?_, fun _ => ⟨d3, rfl, c4.le (by omega)⟩, fun _ => ⟨false, [some (d3, .b), some (.int many, .p), some (.int k, .p), some (T of_, .p), none, some (.list (left.map .str), .o), some (.list (st.map stepD), .o), s7, none, some (.int y, .p)], ?_, d3, rfl, c4.le (by omega)⟩⟩
      · by_cases h : r = 0 <;> simp [irCup3_c2, evCs, runFn, exs, ex, ev, evs, evArgs, evO, evAnd, evOr, evIt, entry, tst, truE, rdOf, tkOf, fstOf, lateOf, quiet, quiets, quietO, pers, look, keepV, readV, takeV, copV, bopV, biV, bi2V, truV, fin, okFin, finals, callNow, argsNow, argNow, lent, back, hidOf, hid2Of, VI.bind, VI.binds, tgs, tgss, asgI, asgs, wipeE, unset, keepP, items, c1, pyEqI, pyEqS, pyEqB, pyEqSI, pyEqIS, pyEqNI, pyEqIN, pyEqNN, pyEqNil, h]
      · simp [irCup3_e2, runFn, exs, ex, ev, evs, evArgs, evO, evAnd, evOr, evIt, entry, tst, truE, rdOf, tkOf, fstOf, lateOf, quiet, quiets, quietO, pers, look, keepV, readV, takeV, copV, bopV, biV, bi2V, truV, fin, okFin, finals, callNow, argsNow, argNow, lent, back, hidOf, hid2Of, VI.bind, VI.binds, tgs, tgss, asgI, asgs, wipeE, unset, keepP, items]) (sizeLine_big (by simp; omega))
  have hnd : (st.map (·.1) ++ left).Nodup := s2.nodup_iff.2 (by decide +kernel)
  have hnd2 : (st.map (·.1)).Nodup := hnd.sublist (List.sublist_append_left _ _)
  refine ⟨⟨of_, st, w⟩, d5, ?_, ⟨o2, o3, fun s hs => ⟨s2.mem_iff.1 (List.mem_append_left _ (List.mem_map_of_mem hs)), s4 s hs⟩, hnd2, by dsimp only; omega, by dsimp only; omega, w2⟩, w3.le (by omega)⟩
  have z1 : int62 many = true := by simp only [int62, decide_eq_true_eq]; omega
  have z2 : int62 k = true := by simp only [int62, decide_eq_true_eq]; omega
  have z3 : int62 (1 + q) = true := by simp only [int62, decide_eq_true_eq]; omega
  rw [rngI_range] at s1
  have hA : exs (call Γ j) ((irCup3 f_take).body.take 1) [some (d, .b), some (.int many, .p), some (.int k, .p), none, none, none, none, none, none, none] = some (.nx, [some (d1, .b), some (.int many, .p), some (.int k, .p), some (T o, .p), none, none, none, none, none, none]) := by
    simp at b1
    simp [irCup3, runFn, exs, ex, ev, evs, evArgs, evO, evAnd, evOr, evIt, entry, tst, truE, rdOf, tkOf, fstOf, lateOf, quiet, quiets, quietO, pers, look, keepV, readV, takeV, copV, bopV, biV, bi2V, truV, fin, okFin, finals, callNow, argsNow, argNow, lent, back, hidOf, hid2Of, VI.bind, VI.binds, tgs, tgss, asgI, asgs, wipeE, unset, keepP, items, z1, rngD_rngI, b1]
  have hB : exs (call Γ j) ((irCup3 f_take).body.drop 2) [some (d2, .b), some (.int many, .p), some (.int k, .p), some (T of_, .p), none, none, none, none, none, none] =
      some (.rt (Cup.enc ⟨of_, st, w⟩) false, [some (d5, .b), some (.int many, .p), some (.int k, .p), some (T of_, .p), none, some (.list (left.map .str), .o), some (.list (st.map stepD), .o), s7, some (T w, .p), none]) := by
    simp at w1
    simp only [measuresL, List.map_cons, List.map_nil] at s1
    simp [irCup3, runFn, exs, ex, ev, evs, evArgs, evO, evAnd, evOr, evIt, entry, tst, truE, rdOf, tkOf, fstOf, lateOf, quiet, quiets, quietO, pers, look, keepV, readV, takeV, copV, bopV, biV, bi2V, truV, fin, okFin, finals, callNow, argsNow, argNow, lent, back, hidOf, hid2Of, VI.bind, VI.binds, tgs, tgss, asgI, asgs, wipeE, unset, keepP, items, q1, z3, rngD_rngI, s1, z2, w1, Cup.enc]
  have body : (irCup3 f_take).body = (irCup3 f_take).body.take 1 ++ (_ :: (irCup3 f_take).body.drop 2) := rfl
  rw [show runFn (call Γ j) (irCup3 f_take) [(d, true), (.int many, false), (.int k, false)] =
    (match exs (call Γ j) (irCup3 f_take).body [some (d, .b), some (.int many, .p), some (.int k, .p), none, none, none, none, none, none, none] with
      | some (.rt d' own, env) => fin (irCup3 f_take) [(d, true), (.int many, false), (.int k, false)] d' own env
      | some (.nx, env) => fin (irCup3 f_take) [(d, true), (.int many, false), (.int k, false)] .none false env
      | _ => none) from rfl, body, exs_app, hA]
  simp only [exs, o1, hB]
  simp [fin, okFin, finals, look, irCup3]
def Show3C (f : Nat) (C : CallF) : Prop := ∀ d i (a b : Int), Pen3OK d i → 1 ≤ a → a ≤ 6 → 0 ≤ b → b ≤ 6 → i + 800 ≤ 2147483648 →
  ∃ (s : Show) (d' : PyData), C f [(d, true), (.int a, false), (.int b, false)] = some (s.enc, false, [(d', true), (.int a, false), (.int b, false)]) ∧ ShowOK s ∧ (s.cls.length : Int) ≤ a ∧ (s.cups.length : Int) ≤ b ∧ Pen3OK d' (i + 800)
theorem show3_lev (hf : Γ[f]? = some (irShow3 f_take f_class f_cup)) (hD : Lev Γ n (Take3C f_take)) (hC : Lev Γ n (Class3C f_class)) (hU : Lev Γ n (Cup3C f_cup)) : Lev Γ (n + 1) (Show3C f) := by
  refine lev_of fun k hk d i a b hd ha1 ha6 hb0 hb6 hi => ?_
  rw [call_at hf]
  have hD := hD k hk
  obtain ⟨q0, d1, a1, a2, a3, a4⟩ := hD d i 3 hd (by omega) (by decide) (by decide)
  obtain ⟨room, env1, b1, b2, b3, d2, rfl, b4⟩ := compL_draws (C := call Γ k) (t := .nm 4) (own := [4]) (e := ev (call Γ k) (irShow3_e1 f_take)) (fun (i : Nat) => PyData.int i) PyData.int (fun (w : Int) => 2 ≤ w ∧ w ≤ 4)
    (fun j env => ∃ d', env = [some (d', .b), some (.int a, .p), some (.int b, .p), none, none, none, none, none, none, none, none] ∧ Pen3OK d' (i + 1 + j)) (ys := List.range (1 + q0).toNat) (acc := []) (j := 0)
    (env := [some (d1, .b), some (.int a, .p), some (.int b, .p), none, none, none, none, none, none, none, none]) ⟨d1, rfl, a4⟩ (by
      rintro j y env hy ⟨d2, rfl, hp⟩
      have hj := (List.getElem?_eq_some_iff.1 hy).1
      simp at hj
      obtain ⟨u, d3, c1, c2, c3, c4⟩ := hD d2 _ 3 hp (by omega) (by decide) (by decide)
      refine ⟨_, 2 + u, false, [some (d3, .b), some (.int a, .p), some (.int b, .p), none, some (.int y, .p), none, none, none, none, none, none], rfl, ?_, by omega, d3, rfl, c4.le (by omega)⟩
      simp [irShow3_e1, runFn, exs, ex, ev, evs, evArgs, evO, evAnd, evOr, evIt, entry, tst, truE, rdOf, tkOf, fstOf, lateOf, quiet, quiets, quietO, pers, look, keepV, readV, takeV, copV, bopV, biV, bi2V, truV, fin, okFin, finals, callNow, argsNow, argNow, lent, back, hidOf, hid2Of, VI.bind, VI.binds, tgs, tgss, asgI, asgs, wipeE, unset, keepP, items, c1]) (sizeLine_big (by simp; omega))
  simp at b1 b2 b4
  have b4 := b4.le (j := i + 4) (by omega)
  have hr : IsRoom room := ⟨by omega, by omega, b3⟩
  obtain ⟨env2, e1, z, s6, rfl, ez0, ez1⟩ := forL_pre (t := .nm 6) (b := exs (call Γ k) irShow3_b1) PyData.int (fun pre env => ∃ z s6, env = [some (d2, .b), some (.int a, .p), some (.int b, .p), some (T room, .p), none, some (.int z, .p), s6, none, none, none, none] ∧ 1 ≤ z ∧ z ≤ 4 ^ pre.length) (all := room) (ys := room) (pre := [])
    (env := [some (d2, .b), some (.int a, .p), some (.int b, .p), some (T room, .p), none, some (.int 1, .p), none, none, none, none, none]) rfl ⟨1, none, rfl, by decide, by decide⟩ (by
      rintro pre y post env ha ⟨z, s6, rfl, hz0, hz1⟩
      have hy := hr.2.2 y (by rw [ha]; simp)
      have e : y.natAbs < 18446744073709551616 := by omega
      refine ⟨_, [some (d2, .b), some (.int a, .p), some (.int b, .p), some (T room, .p), none, some (.int (z * y), .p), some (.int y, .p), none, none, none, none], rfl, Or.inl (by simp [irShow3_b1, runFn, exs, ex, ev, evs, evArgs, evO, evAnd, evOr, evIt, entry, tst, truE, rdOf, tkOf, fstOf, lateOf, quiet, quiets, quietO, pers, look, keepV, readV, takeV, copV, bopV, biV, bi2V, truV, fin, okFin, finals, callNow, argsNow, argNow, lent, back, hidOf, hid2Of, VI.bind, VI.binds, tgs, tgss, asgI, asgs, wipeE, unset, keepP, items, e]), _, _, rfl, ?_, ?_⟩
      · have := Int.mul_le_mul hz0 (show (1 : Int) ≤ y by omega) (by decide) (by omega)
        omega
      · rw [List.length_append, List.length_singleton, Int.pow_succ]
        exact Int.mul_le_mul hz1 hy.2 (by omega) (by omega))
  have hz64 : z ≤ 64 := by
    have h3 := hr.2.1
    have : (4 : Int) ^ room.length ≤ 4 ^ 3 := by
      have := Nat.pow_le_pow_right (show 0 < 4 by decide) h3
      exact_mod_cast this
    omega
  have hq2 : 2 ≤ Int.fdiv 144 z := by
    rw [Int.fdiv_eq_ediv_of_nonneg _ (by omega)]
    exact (Int.le_ediv_iff_mul_le (by omega)).2 (by omega)
  have hq144 : Int.fdiv 144 z ≤ 144 := by
    rw [Int.fdiv_eq_ediv_of_nonneg _ (by omega)]
    exact Int.ediv_le_self _ (by decide)
  obtain ⟨mb, hmb, mb1, mba⟩ : ∃ mb : Int, (if Int.fdiv 144 z < a then Int.fdiv 144 z else a) = mb ∧ 1 ≤ mb ∧ mb ≤ a := by
    by_cases h : Int.fdiv 144 z < a
    · exact ⟨_, rfl, by rw [if_pos h]; omega, by rw [if_pos h]; omega⟩
    · exact ⟨_, rfl, by rw [if_neg h]; omega, by rw [if_neg h]; omega⟩
  obtain ⟨q, d3, c1, c2, c3, c4⟩ := hD d2 _ mb b4 (by omega) (by omega) (by omega)
  obtain ⟨cls, env3, g1, g2, g3, d4, rfl, g4⟩ := compL_draw (C := call Γ k) (t := .nm 9) (own := [9]) (e := ev (call Γ k) (irShow3_e2 f_class)) (fun (i : Nat) => PyData.int i) Cls.enc (fun (c : Nat) (cl : Cls) => ClsOK room (1 + q) c cl)
    (fun j env => ∃ d', env = [some (d', .b), some (.int a, .p), some (.int b, .p), some (T room, .p), none, some (.int z, .p), s6, some (.int (1 + q), .p), none, none, none] ∧ Pen3OK d' (i + 5 + 100 * j)) (ys := List.range (1 + q).toNat) (acc := []) (j := 0)
    (env := [some (d3, .b), some (.int a, .p), some (.int b, .p), some (T room, .p), none, some (.int z, .p), s6, some (.int (1 + q), .p), none, none, none]) ⟨d3, rfl, c4⟩ (by
      rintro j y env hy ⟨d2, rfl, hp⟩
      obtain ⟨hj, hjy⟩ := List.getElem?_eq_some_iff.1 hy
      simp at hj hjy
      obtain ⟨cl, d3, p1, p2, p3⟩ := hC k hk d2 _ room (1 + q) y hp hr (by omega) (by omega) (by omega) (by omega)
      refine ⟨_, cl, false, [some (d3, .b), some (.int a, .p), some (.int b, .p), some (T room, .p), none, some (.int z, .p), s6, some (.int (1 + q), .p), none, some (.int y, .p), none], rfl, ?_, p2, d3, rfl, p3.le (by omega)⟩
      simp [irShow3_e2, runFn, exs, ex, ev, evs, evArgs, evO, evAnd, evOr, evIt, entry, tst, truE, rdOf, tkOf, fstOf, lateOf, quiet, quiets, quietO, pers, look, keepV, readV, takeV, copV, bopV, biV, bi2V, truV, fin, okFin, finals, callNow, argsNow, argNow, lent, back, hidOf, hid2Of, VI.bind, VI.binds, tgs, tgss, asgI, asgs, wipeE, unset, keepP, items, p1]) (sizeLine_big (by simp; omega))
  simp at g1 g2 g4
  have g4 := g4.le (j := i + 605) (by omega)
  obtain ⟨u, d5, h1, h2, h3, h4⟩ := hD d4 _ (b + 1) g4 (by omega) (by omega) (by omega)
  obtain ⟨cups, env', m1, m2, m3, d6, rfl, m4⟩ := compL_draw (C := call Γ k) (t := .nm 10) (own := [10]) (e := ev (call Γ k) (irShow3_e3 f_cup)) (fun (i : Nat) => PyData.int i) Cup.enc (fun (c : Nat) (cu : Cup) => CupOK (1 + q) c cu)
    (fun j env => ∃ d', env = [some (d', .b), some (.int a, .p), some (.int b, .p), some (T room, .p), none, some (.int z, .p), s6, some (.int (1 + q), .p), some (.tuple (cls.map Cls.enc), .p), none, none] ∧ Pen3OK d' (i + 606 + 22 * j)) (ys := List.range u.toNat) (acc := []) (j := 0)
    (env := [some (d5, .b), some (.int a, .p), some (.int b, .p), some (T room, .p), none, some (.int z, .p), s6, some (.int (1 + q), .p), some (.tuple (cls.map Cls.enc), .p), none, none]) ⟨d5, rfl, h4.le (by omega)⟩ (by
      rintro j y env hy ⟨d2, rfl, hp⟩
      obtain ⟨hj, hjy⟩ := List.getElem?_eq_some_iff.1 hy
      simp at hj hjy
      obtain ⟨cu, d3, p1, p2, p3⟩ := hU k hk d2 _ (1 + q) y hp (by omega) (by omega) (by omega) (by omega) (by omega)
      refine ⟨_, cu, false, [some (d3, .b), some (.int a, .p), some (.int b, .p), some (T room, .p), none, some (.int z, .p), s6, some (.int (1 + q), .p), some (.tuple (cls.map Cls.enc), .p), none, some (.int y, .p)], rfl, ?_, p2, d3, rfl, p3.le (by omega)⟩
      simp [irShow3_e3, runFn, exs, ex, ev, evs, evArgs, evO, evAnd, evOr, evIt, entry, tst, truE, rdOf, tkOf, fstOf, lateOf, quiet, quiets, quietO, pers, look, keepV, readV, takeV, copV, bopV, biV, bi2V, truV, fin, okFin, finals, callNow, argsNow, argNow, lent, back, hidOf, hid2Of, VI.bind, VI.binds, tgs, tgss, asgI, asgs, wipeE, unset, keepP, items, p1]) (sizeLine_big (by simp; omega))
  simp at m1 m2 m4
  have hcl : (cls.length : Int) = 1 + q := by omega
  refine ⟨⟨room, cls, cups⟩, d6, ?_, ⟨hr, by dsimp only; omega, by dsimp only; omega, fun j cl hj => ?_, by dsimp only; omega, fun j cu hj => ?_⟩, by dsimp only; omega, by dsimp only; omega, m4.le (by omega)⟩
  · have z0 : int62 (1 + q0) = true := by simp only [int62, decide_eq_true_eq]; omega
    have z1 : int62 (1 + q) = true := by simp only [int62, decide_eq_true_eq]; omega
    have z2 : int62 u = true := by simp only [int62, decide_eq_true_eq]; omega
    have z3 : z ≠ 0 := by omega
    have z4 : z.natAbs < 1073741824 := by omega
    simp [irShow3, runFn, exs, ex, ev, evs, evArgs, evO, evAnd, evOr, evIt, entry, tst, truE, rdOf, tkOf, fstOf, lateOf, quiet, quiets, quietO, pers, look, keepV, readV, takeV, copV, bopV, biV, bi2V, truV, fin, okFin, finals, callNow, argsNow, argNow, lent, back, hidOf, hid2Of, VI.bind, VI.binds, tgs, tgss, asgI, asgs, wipeE, unset, keepP, items, a1, z0, rngD0, b1, e1, z3, z4, hmb, c1, z1, g1, h1, z2, m1, Show.enc]
  · dsimp only at hj ⊢
    have hl := (List.getElem?_eq_some_iff.1 hj).1
    rw [hcl]
    exact g3 j j cl (by rw [List.getElem?_eq_getElem (by simp; omega)]; simp) hj
  · dsimp only at hj ⊢
    have hl := (List.getElem?_eq_some_iff.1 hj).1
    rw [hcl]
    exact m3 j j cu (by rw [List.getElem?_eq_getElem (by simp; omega)]; simp) hj
end
end VI
set_option maxRecDepth 100000
set_option maxHeartbeats 4000000
/-! Alike in kind; movings gone by. -/
namespace VI
open PySem
/-- 0:_law_show_here 1:_law_entry 2:_law_c 3:_law_turn 4:_law_letting 5:_law_test_here 6:_law_to -/
def irJudged3_e1 : IE := (.var 6)
def irJudged3_c1 (f__law_meets : Nat) : List IE := [(.call f__law_meets [(.var 5), (.ix (.var 1) (.cst (.int 2)))])]
def irJudged3_b1 (f__law_meets : Nat) : List IS := [(.asg (.nm 4) (.cmpr irJudged3_e1 (.tp [(.nm 5), (.nm 6)]) (.val (.ix (.ix (.ix (.var 0) (.cst (.int 1))) (.var 2)) (.cst (.int 0)))) (irJudged3_c1 f__law_meets))),
    (.ifs (.cmp .eq (.var 4) (.lst [])) [(.ret (.var 2))] []),
    (.asg (.nm 2) (.ix (.var 4) (.cst (.int 0))))]
@[simp] theorem irJudged3_b1_asgs {f__law_meets : Nat} : asgs (irJudged3_b1 f__law_meets) = [4, 2] := by rfl
def irJudged3 (f__law_meets : Nat) : Fn := ⟨2, 7,
   [(.asg (.nm 2) (.ix (.var 1) (.cst (.int 1)))),
    (.for_ (.nm 3) (.rng1 (.cst (.int 7))) (irJudged3_b1 f__law_meets)),
    (.ret (.cst .none))], [2, 3, 4, 2]⟩
/-- 0:_law_found 1:_law_due 2:_law_one 3:_law_other -/
def irPlain3_e1 (f__law_plain : Nat) : IE := (.call f__law_plain [(.var 2), (.var 3)])
def irPlain3 (f__law_plain : Nat) : Fn := ⟨2, 4,
   [(.ifs (.inst (.var 1) ["list", "tuple"]) [(.ifs (.orv [(.cmp .ne (.inst (.var 1) ["list"]) (.inst (.var 0) ["list"])), (.cmp .ne (.inst (.var 1) ["tuple"]) (.inst (.var 0) ["tuple"]))]) [(.ret (.cst (.bool false)))] []),
    (.ret (.andv [(.cmp .eq (.bi .len (.var 0)) (.bi .len (.var 1))), (.bi .all (.cmpr (irPlain3_e1 f__law_plain) (.tp [(.nm 2), (.nm 3)]) (.zip (.var 0) (.var 1)) []))]))] []),
    (.ifs (.cmp .is_ (.var 1) (.cst .none)) [(.ret (.cmp .is_ (.var 0) (.cst .none)))] []),
    (.ifs (.inst (.var 1) ["str"]) [(.ret (.andv [(.inst (.var 0) ["str"]), (.cmp .eq (.var 0) (.var 1))]))] []),
    (.ret (.andv [(.inst (.var 0) ["int"]), (.nt (.inst (.var 0) ["bool"])), (.cmp .eq (.var 0) (.var 1))]))], []⟩
/-- 0:_law_room 1:_law_found 2:_law_many 3:_law_longer 4:_law_facts 5:_law_worth -/
def irAll3_e1 : IE := (.bop .add (.var 4) (.tup [(.var 5)]))
def irAll3_b1 : List IS := [(.ex (.mu .extend 3 [(.cmpr irAll3_e1 (.nm 5) (.rng1 (.var 2)) [])]))]
def irAll3_b2 : List IS := [(.asg (.nm 3) (.lst [])),
    (.for_ (.nm 4) (.hid 1) irAll3_b1),
    (.asg (.nm 1) (.var 3))]
@[simp] theorem irAll3_b1_asgs : asgs irAll3_b1 = [] := by rfl
@[simp] theorem irAll3_b2_asgs : asgs irAll3_b2 = [3, 4, 1] := by rfl
def irAll3 : Fn := ⟨1, 6,
   [(.asg (.nm 1) (.lst [(.tup [])])),
    (.for_ (.nm 2) (.hid 0) irAll3_b2),
    (.ret (.var 1))], [1, 2, 3, 4, 1]⟩
/-- 0:_law_show_here 1:_law_c 2:_law_facts 3:_law_letting 4:_law_number 5:_law_moving -/
def irFirst3_e1 : IE := (.var 4)
def irFirst3_c1 (f__law_meets : Nat) : List IE := [(.call f__law_meets [(.ix (.var 5) (.cst (.int 0))), (.var 2)])]
def irFirst3 (f__law_meets : Nat) : Fn := ⟨3, 6,
   [(.asg (.nm 3) (.cmpr irFirst3_e1 (.tp [(.nm 4), (.nm 5)]) (.enum (.ix (.ix (.ix (.var 0) (.cst (.int 1))) (.var 1)) (.cst (.int 0)))) (irFirst3_c1 f__law_meets))),
    (.ret (.ix (.bop .add (.var 3) (.lst [(.cst .none)])) (.cst (.int 0))))], [3]⟩
/-- 0:show 1:c 2:facts 3:number 4:test 5:to -/
def ir_met_first_b1 (f_meets : Nat) : List IS := [(.ifs (.call f_meets [(.var 4), (.var 2)]) [(.ret (.var 3))] [])]
@[simp] theorem ir_met_first_b1_asgs {f_meets : Nat} : asgs (ir_met_first_b1 f_meets) = [] := by rfl
def ir_met_first (f_meets : Nat) : Fn := ⟨3, 6,
   [(.for_ (.tp [(.nm 3), (.tp [(.nm 4), (.nm 5)])]) (.enum (.ix (.ix (.ix (.var 0) (.cst (.int 1))) (.var 1)) (.cst (.int 0)))) (ir_met_first_b1 f_meets)),
    (.ret (.cst .none))], [3, 4, 5]⟩
/-- 0:show 1:c 2:number 3:facts -/
def ir_gone_by_b1 (f_met_first : Nat) : List IS := [(.ifs (.cmp .eq (.call f_met_first [(.var 0), (.var 1), (.var 3)]) (.var 2)) [(.ret (.var 3))] [])]
@[simp] theorem ir_gone_by_b1_asgs {f_met_first : Nat} : asgs (ir_gone_by_b1 f_met_first) = [] := by rfl
def ir_gone_by (f_all_facts f_met_first : Nat) : Fn := ⟨3, 4,
   [(.for_ (.nm 3) (.val (.call f_all_facts [(.ix (.var 0) (.cst (.int 0)))])) (ir_gone_by_b1 f_met_first)),
    (.ret (.cst .none))], [3]⟩
/-- 0:show 1:found 2:c 3:movings 4:splits 5:points 6:used 7:facts 8:number -/
def ir_idle_ones_e1 (f_met_first : Nat) : IE := (.call f_met_first [(.var 0), (.var 2), (.var 7)])
def ir_idle_ones_e2 : IE := (.tup [(.var 2), (.var 8)])
def ir_idle_ones_c1 : List IE := [(.cmp .notin (.var 8) (.var 6))]
def ir_idle_ones_b1 (f_met_first f_all_facts : Nat) : List IS := [(.asg (.nm 6) (.cmpr (ir_idle_ones_e1 f_met_first) (.nm 7) (.val (.call f_all_facts [(.ix (.var 0) (.cst (.int 0)))])) [])),
    (.ex (.mu .extend 1 [(.cmpr ir_idle_ones_e2 (.nm 8) (.rng1 (.bi .len (.var 3))) ir_idle_ones_c1)]))]
@[simp] theorem ir_idle_ones_b1_asgs {f_met_first f_all_facts : Nat} : asgs (ir_idle_ones_b1 f_met_first f_all_facts) = [6] := by rfl
def ir_idle_ones (f_met_first f_all_facts : Nat) : Fn := ⟨1, 9,
   [(.asg (.nm 1) (.lst [])),
    (.for_ (.tp [(.nm 2), (.tp [(.nm 3), (.nm 4), (.nm 5)])]) (.enum (.ix (.var 0) (.cst (.int 1)))) (ir_idle_ones_b1 f_met_first f_all_facts)),
    (.ret (.var 1))], [1, 2, 3, 4, 5, 6]⟩
def PlainN : Nat → PyData → Prop
  | 0, x => x = .none ∨ (∃ i : Int, x = .int i) ∨ ∃ s : Str, x = .str s
  | n + 1, x => (x = .none ∨ (∃ i : Int, x = .int i) ∨ ∃ s : Str, x = .str s) ∨ ∃ l, (x = .list l ∨ x = .tuple l) ∧ l.length ≤ 1000 ∧ ∀ y ∈ l, PlainN n y
theorem plain_leaf {x : PyData} (h : x = .none ∨ (∃ i : Int, x = .int i) ∨ ∃ s : Str, x = .str s) : ∀ n, PlainN n x
  | 0 => h
  | _ + 1 => Or.inl h
def isLst : PyData → Bool
  | .list _ => true
  | _ => false
def Plain3C (f dep : Nat) (C : CallF) : Prop := ∀ x (m : Bool), PlainN dep x → (m = true → isLst x = true) → C f [(x, m), (x, m)] = some (.bool true, false, [(x, m), (x, m)])
section
variable {Γ : List Fn} {f n f_meets f_met f_all : Nat} {C : CallF}
theorem zip_same (l : List PyData) : zipD l l = l.map fun y => .tuple [y, y] := by
  unfold zipD
  induction l with
  | nil => rfl
  | cons x l ih => simp [ih]
theorem all_true (l : List PyData) : boolsOf (l.map fun _ => PyData.bool true) = some (l.map fun _ => true) := by
  induction l with
  | nil => rfl
  | cons x l ih => simp only [List.map_cons, boolsOf, ih]
theorem plain3_leaf {x : PyData} (h : x = .none ∨ (∃ i : Int, x = .int i) ∨ ∃ s : Str, x = .str s) : runFn C (irPlain3 f) [(x, false), (x, false)] = some (.bool true, false, [(x, false), (x, false)]) := by
  rcases h with rfl | ⟨i, rfl⟩ | ⟨s, rfl⟩
  · simp [irPlain3, runFn, exs, ex, ev, evs, evArgs, evO, evAnd, evOr, evIt, entry, tst, truE, rdOf, tkOf, fstOf, lateOf, quiet, quiets, quietO, pers, look, keepV, readV, takeV, copV, bopV, biV, bi2V, truV, fin, okFin, finals, callNow, argsNow, argNow, lent, back, hidOf, hid2Of, VI.bind, VI.binds, tgs, tgss, asgI, asgs, wipeE, unset, keepP, items, isiV, tyIs, tyN]
  · simp [irPlain3, runFn, exs, ex, ev, evs, evArgs, evO, evAnd, evOr, evIt, entry, tst, truE, rdOf, tkOf, fstOf, lateOf, quiet, quiets, quietO, pers, look, keepV, readV, takeV, copV, bopV, biV, bi2V, truV, fin, okFin, finals, callNow, argsNow, argNow, lent, back, hidOf, hid2Of, VI.bind, VI.binds, tgs, tgss, asgI, asgs, wipeE, unset, keepP, items, isiV, tyIs, tyN, pyEqI, pyEqS, pyEqB, pyEqSI, pyEqIS, pyEqNI, pyEqIN, pyEqNN, pyEqNil]
  · simp [irPlain3, runFn, exs, ex, ev, evs, evArgs, evO, evAnd, evOr, evIt, entry, tst, truE, rdOf, tkOf, fstOf, lateOf, quiet, quiets, quietO, pers, look, keepV, readV, takeV, copV, bopV, biV, bi2V, truV, fin, okFin, finals, callNow, argsNow, argNow, lent, back, hidOf, hid2Of, VI.bind, VI.binds, tgs, tgss, asgI, asgs, wipeE, unset, keepP, items, isiV, tyIs, tyN, pyEqI, pyEqS, pyEqB, pyEqSI, pyEqIS, pyEqNI, pyEqIN, pyEqNN, pyEqNil]
theorem plain3_lev (hf : Γ[f]? = some (irPlain3 f)) : ∀ dep, Lev Γ (dep + 1) (Plain3C f dep)
  | 0 => by
    refine lev_of (n := 0) fun k _ x m hx hm => ?_
    rw [call_at hf]
    have : m = false := by
      cases m with
      | false => rfl
      | true =>
        have := hm rfl
        rcases hx with rfl | ⟨i, rfl⟩ | ⟨s, rfl⟩ <;> cases this
    subst this
    exact plain3_leaf hx
  | dep + 1 => by
    refine lev_of (n := dep + 1) fun k hk x m hx hm => ?_
    rw [call_at hf]
    have ih := plain3_lev hf dep k hk
    rcases hx with hx | ⟨l, hl, hlen, hall⟩
    · have : m = false := by
        cases m with
        | false => rfl
        | true =>
          have := hm rfl
          rcases hx with rfl | ⟨i, rfl⟩ | ⟨s, rfl⟩ <;> cases this
      subst this
      exact plain3_leaf hx
    · have hc : ∀ s0 s1 : Slot, compL (.tp [.nm 2, .nm 3]) [2, 3] (evCs (call Γ k) []) (ev (call Γ k) (irPlain3_e1 f)) (l.map fun y => .tuple [y, y]) [] [s0, s1, none, none] = some (l.map fun _ => .bool true, [s0, s1, none, none]) := by
        intro s0 s1
        have := compL_map (C := call Γ k) (t := .tp [.nm 2, .nm 3]) (own := [2, 3]) (e := ev (call Γ k) (irPlain3_e1 f)) (fun y => .tuple [y, y]) (fun _ => .bool true) (ys := l) (acc := []) (env := [s0, s1, none, none]) (fun y hy => by
          have c := ih y false (hall y hy) (fun h => by cases h)
          refine ⟨_, false, [s0, s1, some (y, .p), some (y, .p)], rfl, ?_, rfl⟩
          simp [irPlain3_e1, runFn, exs, ex, ev, evs, evArgs, evO, evAnd, evOr, evIt, entry, tst, truE, rdOf, tkOf, fstOf, lateOf, quiet, quiets, quietO, pers, look, keepV, readV, takeV, copV, bopV, biV, bi2V, truV, fin, okFin, finals, callNow, argsNow, argNow, lent, back, hidOf, hid2Of, VI.bind, VI.binds, tgs, tgss, asgI, asgs, wipeE, unset, keepP, items, c]) (sizeLine_big (by simp; omega))
        simpa using this
      rcases hl with rfl | rfl
      · cases m with
        | false =>
          simp [irPlain3, runFn, exs, ex, ev, evs, evArgs, evO, evAnd, evOr, evIt, entry, tst, truE, rdOf, tkOf, fstOf, lateOf, quiet, quiets, quietO, pers, look, keepV, readV, takeV, copV, bopV, biV, bi2V, truV, fin, okFin, finals, callNow, argsNow, argNow, lent, back, hidOf, hid2Of, VI.bind, VI.binds, tgs, tgss, asgI, asgs, wipeE, unset, keepP, items, isiV, tyIs, tyN, zip_same, hc, all_true, pyEqI, pyEqS, pyEqB, pyEqSI, pyEqIS, pyEqNI, pyEqIN, pyEqNN, pyEqNil]
        | true =>
          simp [irPlain3, runFn, exs, ex, ev, evs, evArgs, evO, evAnd, evOr, evIt, entry, tst, truE, rdOf, tkOf, fstOf, lateOf, quiet, quiets, quietO, pers, look, keepV, readV, takeV, copV, bopV, biV, bi2V, truV, fin, okFin, finals, callNow, argsNow, argNow, lent, back, hidOf, hid2Of, VI.bind, VI.binds, tgs, tgss, asgI, asgs, wipeE, unset, keepP, items, isiV, tyIs, tyN, zip_same, hc, all_true, pyEqI, pyEqS, pyEqB, pyEqSI, pyEqIS, pyEqNI, pyEqIN, pyEqNN, pyEqNil]
      · have : m = false := by
          cases m with
          | false => rfl
          | true => exact absurd (hm rfl) (by simp [isLst])
        subst this
        simp [irPlain3, runFn, exs, ex, ev, evs, evArgs, evO, evAnd, evOr, evIt, entry, tst, truE, rdOf, tkOf, fstOf, lateOf, quiet, quiets, quietO, pers, look, keepV, readV, takeV, copV, bopV, biV, bi2V, truV, fin, okFin, finals, callNow, argsNow, argNow, lent, back, hidOf, hid2Of, VI.bind, VI.binds, tgs, tgss, asgI, asgs, wipeE, unset, keepP, items, isiV, tyIs, tyN, zip_same, hc, all_true, pyEqI, pyEqS, pyEqB, pyEqSI, pyEqIS, pyEqNI, pyEqIN, pyEqNN, pyEqNil]
theorem all3_lev (hf : Γ[f]? = some irAll3) : Lev Γ 1 (AllFactsC f) := allFacts_lev hf
/-- the number of the first moving that lets facts -/
def Cls.first (cl : Cls) (fs : List Int) : Option Nat := (cl.movs.zipIdx.find? fun p => p.1.1.meets fs).map (·.2)
def MetFirstC (f : Nat) (C : CallF) : Prop := ∀ (s : Show) (c : Nat) (cl : Cls) (fs : List Int), ShowOK s → s.cls[c]? = some cl → fs.length = s.room.length → C f [(s.enc, false), (.int c, false), (T fs, false)] = some (natD (cl.first fs), false, [(s.enc, false), (.int c, false), (T fs, false)])
theorem metFirst_lev (hf : Γ[f]? = some (ir_met_first f_meets)) (hM : Lev Γ n (MeetsC f_meets 5)) : Lev Γ (n + 1) (MetFirstC f) := by
  refine lev_of fun k hk s c cl fs hs hc hl => ?_
  rw [call_at hf]
  have hM := hM k hk
  have ok := hs.c c cl hc
  have e1 : ixV s.enc (.int 1) = some (.tuple (s.cls.map Cls.enc)) := at1
  have e2 := cls_at hc
  have e3 : ixV cl.enc (.int 0) = some (.tuple (cl.movs.map movD)) := at0
  have hF := forL_find (t := .tp [.nm 3, .tp [.nm 4, .nm 5]]) (b := exs (call Γ k) (ir_met_first_b1 f_meets)) (fun p : (Tst × Int) × Nat => .tuple [.int (p.2 : Nat), movD p.1]) (fun p => p.1.1.meets fs) (fun p => .int (p.2 : Nat)) (fun _ => false) (fun env => ∃ s3 s4 s5, env = [some (s.enc, .p), some (.int c, .p), some (T fs, .p), s3, s4, s5]) (fun env => ∃ s3 s4 s5, env = [some (s.enc, .p), some (.int c, .p), some (T fs, .p), s3, s4, s5]) (ys := cl.movs.zipIdx)
    (env := [some (s.enc, .p), some (.int c, .p), some (T fs, .p), none, none, none]) ⟨_, _, _, rfl⟩ (by
      rintro y hy env ⟨s3, s4, s5, rfl⟩
      have hm : y.1 ∈ cl.movs := by
        have := List.mem_map_of_mem (f := Prod.fst) hy
        rwa [List.zipIdx_map_fst] at this
      have mo := ok.m y.1 hm
      have m1 := hM y.1.1 fs mo.deep (by rw [hl]; exact mo.fits.inl)
      refine ⟨_, [some (s.enc, .p), some (.int c, .p), some (T fs, .p), some (.int (y.2 : Nat), .p), some (y.1.1.enc, .p), some (.int y.1.2, .p)], rfl, fun h => ⟨Or.inl ?_, _, _, _, rfl⟩, fun h => ⟨?_, _, _, _, rfl⟩⟩
      · rw [h] at m1; simp [ir_met_first_b1, runFn, exs, ex, ev, evs, evArgs, evO, evAnd, evOr, evIt, entry, tst, truE, rdOf, tkOf, fstOf, lateOf, quiet, quiets, quietO, pers, look, keepV, readV, takeV, copV, bopV, biV, bi2V, truV, fin, okFin, finals, callNow, argsNow, argNow, lent, back, hidOf, hid2Of, VI.bind, VI.binds, tgs, tgss, asgI, asgs, wipeE, unset, keepP, items, m1]
      · rw [h] at m1; simp [ir_met_first_b1, runFn, exs, ex, ev, evs, evArgs, evO, evAnd, evOr, evIt, entry, tst, truE, rdOf, tkOf, fstOf, lateOf, quiet, quiets, quietO, pers, look, keepV, readV, takeV, copV, bopV, biV, bi2V, truV, fin, okFin, finals, callNow, argsNow, argNow, lent, back, hidOf, hid2Of, VI.bind, VI.binds, tgs, tgss, asgI, asgs, wipeE, unset, keepP, items, m1])
  rw [← enumD_enc] at hF
  unfold Cls.first
  split at hF
  · rename_i e
    obtain ⟨env', h1, s3, s4, s5, rfl⟩ := hF
    rw [e]
    simp [ir_met_first, runFn, exs, ex, ev, evs, evArgs, evO, evAnd, evOr, evIt, entry, tst, truE, rdOf, tkOf, fstOf, lateOf, quiet, quiets, quietO, pers, look, keepV, readV, takeV, copV, bopV, biV, bi2V, truV, fin, okFin, finals, callNow, argsNow, argNow, lent, back, hidOf, hid2Of, VI.bind, VI.binds, tgs, tgss, asgI, asgs, wipeE, unset, keepP, items, e1, e2, e3, h1, natD]
  · rename_i y e
    obtain ⟨env', h1, s3, s4, s5, rfl⟩ := hF
    rw [e]
    simp [ir_met_first, runFn, exs, ex, ev, evs, evArgs, evO, evAnd, evOr, evIt, entry, tst, truE, rdOf, tkOf, fstOf, lateOf, quiet, quiets, quietO, pers, look, keepV, readV, takeV, copV, bopV, biV, bi2V, truV, fin, okFin, finals, callNow, argsNow, argNow, lent, back, hidOf, hid2Of, VI.bind, VI.binds, tgs, tgss, asgI, asgs, wipeE, unset, keepP, items, e1, e2, e3, h1, natD]
theorem first3_lev (hf : Γ[f]? = some (irFirst3 f_meets)) (hM : Lev Γ n (MeetsC f_meets 5)) : Lev Γ (n + 1) (MetFirstC f) := by
  refine lev_of fun k hk s c cl fs hs hc hl => ?_
  rw [call_at hf]
  have hM := hM k hk
  have ok := hs.c c cl hc
  have hml := ok.ml
  have e1 : ixV s.enc (.int 1) = some (.tuple (s.cls.map Cls.enc)) := at1
  have e2 := cls_at hc
  have e3 : ixV cl.enc (.int 0) = some (.tuple (cl.movs.map movD)) := at0
  have hcc := compL_pure (t := .tp [.nm 4, .nm 5]) (own := [4, 5]) (cs := evCs (call Γ k) (irFirst3_c1 f_meets)) (e := ev (call Γ k) irFirst3_e1) (fun p : (Tst × Int) × Nat => .tuple [.int (p.2 : Nat), movD p.1]) (fun p => p.1.1.meets fs) (fun p => .int (p.2 : Nat)) (ys := cl.movs.zipIdx) (acc := []) (env := [some (s.enc, .p), some (.int c, .p), some (T fs, .p), none, none, none]) (by
    intro y hy
    have hm : y.1 ∈ cl.movs := by
      have := List.mem_map_of_mem (f := Prod.fst) hy
      rwa [List.zipIdx_map_fst] at this
    have mo := ok.m y.1 hm
    have m1 := hM y.1.1 fs mo.deep (by rw [hl]; exact mo.fits.inl)
    have m0 : ixV (movD y.1) (.int 0) = some y.1.1.enc := at0
    refine ⟨_, [some (s.enc, .p), some (.int c, .p), some (T fs, .p), none, some (.int (y.2 : Nat), .p), some (movD y.1, .p)], rfl, ?_, fun _ => rfl, fun _ => ⟨false, [some (s.enc, .p), some (.int c, .p), some (T fs, .p), none, some (.int (y.2 : Nat), .p), some (movD y.1, .p)], ?_, rfl⟩⟩
    · cases h : y.1.1.meets fs <;> rw [h] at m1 <;> simp [irFirst3_c1, evCs, runFn, exs, ex, ev, evs, evArgs, evO, evAnd, evOr, evIt, entry, tst, truE, rdOf, tkOf, fstOf, lateOf, quiet, quiets, quietO, pers, look, keepV, readV, takeV, copV, bopV, biV, bi2V, truV, fin, okFin, finals, callNow, argsNow, argNow, lent, back, hidOf, hid2Of, VI.bind, VI.binds, tgs, tgss, asgI, asgs, wipeE, unset, keepP, items, m0, m1]
    · simp [irFirst3_e1, runFn, exs, ex, ev, evs, evArgs, evO, evAnd, evOr, evIt, entry, tst, truE, rdOf, tkOf, fstOf, lateOf, quiet, quiets, quietO, pers, look, keepV, readV, takeV, copV, bopV, biV, bi2V, truV, fin, okFin, finals, callNow, argsNow, argNow, lent, back, hidOf, hid2Of, VI.bind, VI.binds, tgs, tgss, asgI, asgs, wipeE, unset, keepP, items]) (sizeLine_big (by simp; omega))
  have e5 := first_ix2 (fun p : (Tst × Int) × Nat => p.1.1.meets fs) (fun p => .int (p.2 : Nat)) cl.movs.zipIdx
  have e6 : ((cl.movs.zipIdx.find? (fun p => p.1.1.meets fs)).map fun p => PyData.int (p.2 : Nat)).getD .none = natD (cl.first fs) := by
    unfold Cls.first
    cases cl.movs.zipIdx.find? (fun p => p.1.1.meets fs) <;> rfl
  rw [e6] at e5
  rw [← enumD_enc] at hcc
  have hsz : (cl.movs.zipIdx.filter fun p => p.1.1.meets fs).length + 1 ≤ sizeLine := by
    have := List.length_filter_le (fun p : (Tst × Int) × Nat => p.1.1.meets fs) cl.movs.zipIdx
    simp at this
    exact sizeLine_big (by omega)
  generalize (cl.movs.zipIdx.filter fun p => p.1.1.meets fs) = L at e5 hcc hsz
  simp at hcc
  simp [irFirst3, runFn, exs, ex, ev, evs, evArgs, evO, evAnd, evOr, evIt, entry, tst, truE, rdOf, tkOf, fstOf, lateOf, quiet, quiets, quietO, pers, look, keepV, readV, takeV, copV, bopV, biV, bi2V, truV, fin, okFin, finals, callNow, argsNow, argNow, lent, back, hidOf, hid2Of, VI.bind, VI.binds, tgs, tgss, asgI, asgs, wipeE, unset, keepP, items, e1, e2, e3, hcc, e5, hsz]
def goneD (s : Show) (cl : Cls) (k : Nat) : PyData := match (allFacts s.room).find? (fun fs => decide (cl.first fs = some k)) with
  | some fs => T fs
  | none => .none
def GoneC (f : Nat) (C : CallF) : Prop := ∀ (s : Show) (c : Nat) (cl : Cls) (k : Nat), ShowOK s → s.cls[c]? = some cl → C f [(s.enc, false), (.int c, false), (.int k, false)] = some (goneD s cl k, false, [(s.enc, false), (.int c, false), (.int k, false)])
theorem gone_lev (hf : Γ[f]? = some (ir_gone_by f_all f_met)) (hA : Lev Γ n (AllFactsC f_all)) (hM : Lev Γ n (MetFirstC f_met)) : Lev Γ (n + 1) (GoneC f) := by
  refine lev_of fun j hj s c cl k hs hc => ?_
  rw [call_at hf]
  have hA := hA j hj s.room hs.r
  have hM := hM j hj
  have e0 : ixV s.enc (.int 0) = some (T s.room) := at0
  have hF := forL_find (t := .nm 3) (b := exs (call Γ j) (ir_gone_by_b1 f_met)) T (fun fs => decide (cl.first fs = some k)) (fun fs => T fs) (fun _ => false) (fun env => ∃ s3, env = [some (s.enc, .p), some (.int c, .p), some (.int k, .p), s3]) (fun env => ∃ s3, env = [some (s.enc, .p), some (.int c, .p), some (.int k, .p), s3]) (ys := allFacts s.room)
    (env := [some (s.enc, .p), some (.int c, .p), some (.int k, .p), none]) ⟨_, rfl⟩ (by
      rintro y hy env ⟨s3, rfl⟩
      have m1 := hM s c cl y hs hc (allFacts_mem y hy)
      have m2 := eq_natD (cl.first y) k
      refine ⟨_, [some (s.enc, .p), some (.int c, .p), some (.int k, .p), some (T y, .p)], rfl, fun h => ⟨Or.inl ?_, _, rfl⟩, fun h => ⟨?_, _, rfl⟩⟩
      · simp only [decide_eq_false_iff_not] at h
        simp [ir_gone_by_b1, runFn, exs, ex, ev, evs, evArgs, evO, evAnd, evOr, evIt, entry, tst, truE, rdOf, tkOf, fstOf, lateOf, quiet, quiets, quietO, pers, look, keepV, readV, takeV, copV, bopV, biV, bi2V, truV, fin, okFin, finals, callNow, argsNow, argNow, lent, back, hidOf, hid2Of, VI.bind, VI.binds, tgs, tgss, asgI, asgs, wipeE, unset, keepP, items, m1, m2, h]
      · simp only [decide_eq_true_eq] at h
        rw [h] at m1 m2
        simp only [decide_true] at m2
        simp [ir_gone_by_b1, runFn, exs, ex, ev, evs, evArgs, evO, evAnd, evOr, evIt, entry, tst, truE, rdOf, tkOf, fstOf, lateOf, quiet, quiets, quietO, pers, look, keepV, readV, takeV, copV, bopV, biV, bi2V, truV, fin, okFin, finals, callNow, argsNow, argNow, lent, back, hidOf, hid2Of, VI.bind, VI.binds, tgs, tgss, asgI, asgs, wipeE, unset, keepP, items, m1, m2])
  unfold goneD
  split at hF
  · rename_i e
    obtain ⟨env', h1, s3, rfl⟩ := hF
    rw [e]
    simp [ir_gone_by, runFn, exs, ex, ev, evs, evArgs, evO, evAnd, evOr, evIt, entry, tst, truE, rdOf, tkOf, fstOf, lateOf, quiet, quiets, quietO, pers, look, keepV, readV, takeV, copV, bopV, biV, bi2V, truV, fin, okFin, finals, callNow, argsNow, argNow, lent, back, hidOf, hid2Of, VI.bind, VI.binds, tgs, tgss, asgI, asgs, wipeE, unset, keepP, items, e0, hA, h1]
  · rename_i y e
    obtain ⟨env', h1, s3, rfl⟩ := hF
    rw [e]
    simp [ir_gone_by, runFn, exs, ex, ev, evs, evArgs, evO, evAnd, evOr, evIt, entry, tst, truE, rdOf, tkOf, fstOf, lateOf, quiet, quiets, quietO, pers, look, keepV, readV, takeV, copV, bopV, biV, bi2V, truV, fin, okFin, finals, callNow, argsNow, argNow, lent, back, hidOf, hid2Of, VI.bind, VI.binds, tgs, tgss, asgI, asgs, wipeE, unset, keepP, items, e0, hA, h1]
/-- the movings of a class that no facts go by -/
def idleC (s : Show) (cl : Cls) : List Nat := (List.range cl.movs.length).filter fun k => ((allFacts s.room).find? fun fs => decide (cl.first fs = some k)).isNone
def idleL (s : Show) : List (Int × Int) := s.cls.zipIdx.flatMap fun p => (idleC s p.1).map fun (k : Nat) => ((p.2 : Int), (k : Int))
def IdleC (f : Nat) (C : CallF) : Prop := ∀ (s : Show), ShowOK s → C f [(s.enc, false)] = some (.list ((idleL s).map pairD), true, [(s.enc, false)])
theorem in_natDs (l : List (Option Nat)) (k : Nat) : pyIn (.int k) (.list (l.map natD)) = some (l.any fun o => decide (o = some k)) := by
  have h1 : PyData.canLayAll0 (l.map natD) = true := by
    induction l with
    | nil => rfl
    | cons o l ih =>
      rw [List.map_cons]
      cases o <;> simp only [PyData.canLayAll0, ih, natD, PyData.canLay0, Bool.and_self]
  have h2 : ((l.map natD).any fun z => PyData.eqv z (.int k)) = l.any fun o => decide (o = some k) := by
    induction l with
    | nil => rfl
    | cons o l ih =>
      have h1' : PyData.canLayAll0 (l.map natD) = true := by
        rw [List.map_cons] at h1
        simp only [PyData.canLayAll0, Bool.and_eq_true] at h1
        exact h1.2
      rw [List.map_cons, List.any_cons, List.any_cons, ih h1']
      congr 1
      cases o with
      | none => simp [natD, PyData.eqv]
      | some x =>
        simp only [natD, PyData.eqv]
        by_cases h : x = k
        · simp [h]
        · have h2 : ¬ (x : Int) = k := by omega
          simp [h, h2]
  have h3 : min (PyData.depthAll (l.map natD)) (PyData.int k).depth ≤ 64 := Nat.le_trans (Nat.min_le_right _ _) (by show 0 ≤ 64; decide)
  have h4 : PyData.canLay0 (.int (k : Int)) = true := rfl
  simp only [pyIn, h1, h2, h4, decide_eq_true h3]
  rfl
theorem idle_len {s : Show} (hs : ShowOK s) : ∀ ys : List (Cls × Nat), (∀ p ∈ ys, p.1 ∈ s.cls) → (ys.flatMap fun p => (idleC s p.1).map fun (k : Nat) => ((p.2 : Int), (k : Int))).length ≤ 4 * ys.length
  | [], _ => by simp
  | p :: ys, h => by
    have ih := idle_len hs ys fun q hq => h q (List.mem_cons_of_mem _ hq)
    obtain ⟨c, hc⟩ := mem_at (h p (List.mem_cons_self ..))
    have ml := (hs.c c _ hc).ml
    have : (idleC s p.1).length ≤ p.1.movs.length := by
      unfold idleC
      exact Nat.le_trans (List.length_filter_le _ _) (by simp)
    rw [List.flatMap_cons, List.length_append, List.length_map, List.length_cons]
    omega
theorem idle_lev (hf : Γ[f]? = some (ir_idle_ones f_met f_all)) (hA : Lev Γ n (AllFactsC f_all)) (hM : Lev Γ n (MetFirstC f_met)) : Lev Γ (n + 1) (IdleC f) := by
  refine lev_of fun j hj s hs => ?_
  rw [call_at hf]
  have hA := hA j hj s.room hs.r
  have hM := hM j hj
  have h64 := allFacts_64 hs.r (List.prefix_refl s.room)
  have h6 := hs.c6
  have e0 : ixV s.enc (.int 0) = some (T s.room) := at0
  have e1 : ixV s.enc (.int 1) = some (.tuple (s.cls.map Cls.enc)) := at1
  have memz : ∀ p ∈ s.cls.zipIdx, p.1 ∈ s.cls ∧ s.cls[p.2]? = some p.1 := fun p hp => by
    have := List.mem_zipIdx_iff_getElem?.1 hp
    exact ⟨List.mem_of_getElem? this, this⟩
  obtain ⟨env', h1, s2, s3, s4, s5, s6, h2⟩ := forL_pre (t := .tp [.nm 2, .tp [.nm 3, .nm 4, .nm 5]]) (b := exs (call Γ j) (ir_idle_ones_b1 f_met f_all)) (fun p : Cls × Nat => .tuple [.int (p.2 : Nat), p.1.enc]) (fun pre env => ∃ s2 s3 s4 s5 s6, env = [some (s.enc, .p), some (.list ((pre.flatMap fun p => (idleC s p.1).map fun (k : Nat) => ((p.2 : Int), (k : Int))).map pairD), .o), s2, s3, s4, s5, s6, none, none]) (all := s.cls.zipIdx) (ys := s.cls.zipIdx) (pre := [])
    (env := [some (s.enc, .p), some (.list [], .o), none, none, none, none, none, none, none]) rfl ⟨_, _, _, _, _, rfl⟩ (by
      rintro pre y post env ha ⟨s2, s3, s4, s5, s6, rfl⟩
      have hy : y ∈ s.cls.zipIdx := by rw [ha]; simp
      obtain ⟨y1, y2⟩ := memz y hy
      have ok := hs.c y.2 y.1 y2
      have hml := ok.ml
      have hpl := congrArg List.length ha
      simp at hpl
      have hfl := idle_len hs pre fun p hp => (memz p (by rw [ha]; simp [hp])).1
      have c1 := compL_map (C := call Γ j) (t := .nm 7) (own := [7]) (e := ev (call Γ j) (ir_idle_ones_e1 f_met)) T (fun fs => natD (y.1.first fs)) (ys := allFacts s.room) (acc := [])
        (env := [some (s.enc, .p), some (.list ((pre.flatMap fun p => (idleC s p.1).map fun (k : Nat) => ((p.2 : Int), (k : Int))).map pairD), .o), some (.int (y.2 : Nat), .p), some (.tuple (y.1.movs.map movD), .p), some (.tuple (y.1.splits.map splitD), .p), some (.tuple (y.1.prizes.map .int), .p), s6, none, none]) (fun fs hfs => by
          have m := hM s y.2 y.1 fs hs y2 (allFacts_mem fs hfs)
          refine ⟨_, false, [some (s.enc, .p), some (.list ((pre.flatMap fun p => (idleC s p.1).map fun (k : Nat) => ((p.2 : Int), (k : Int))).map pairD), .o), some (.int (y.2 : Nat), .p), some (.tuple (y.1.movs.map movD), .p), some (.tuple (y.1.splits.map splitD), .p), some (.tuple (y.1.prizes.map .int), .p), s6, some (T fs, .p), none], rfl, ?_, rfl⟩
          simp [ir_idle_ones_e1, runFn, exs, ex, ev, evs, evArgs, evO, evAnd, evOr, evIt, entry, tst, truE, rdOf, tkOf, fstOf, lateOf, quiet, quiets, quietO, pers, look, keepV, readV, takeV, copV, bopV, biV, bi2V, truV, fin, okFin, finals, callNow, argsNow, argNow, lent, back, hidOf, hid2Of, VI.bind, VI.binds, tgs, tgss, asgI, asgs, wipeE, unset, keepP, items, m]) (sizeLine_big (by simp; omega))
      have hin : ∀ q : Nat, pyIn (.int q) (.list ((allFacts s.room).map fun fs => natD (y.1.first fs))) = some (!((allFacts s.room).find? fun fs => decide (y.1.first fs = some q)).isNone) := fun q => by
        have := in_natDs ((allFacts s.room).map fun fs => y.1.first fs) q
        rw [List.map_map] at this
        show pyIn (.int q) (.list ((allFacts s.room).map (natD ∘ fun fs => y.1.first fs))) = _
        rw [this]
        congr 1
        rw [List.any_map]
        generalize allFacts s.room = l
        induction l with
        | nil => rfl
        | cons x l ih =>
          rw [List.any_cons, List.find?_cons]
          by_cases h : y.1.first x = some q
          · simp [h]
          · simp only [Function.comp, h, decide_false, Bool.false_or]
            exact ih
      have c2 := compL_pure (t := .nm 8) (own := [8]) (cs := evCs (call Γ j) ir_idle_ones_c1) (e := ev (call Γ j) ir_idle_ones_e2) (fun (q : Nat) => PyData.int q) (fun q => ((allFacts s.room).find? fun fs => decide (y.1.first fs = some q)).isNone) (fun (q : Nat) => pairD ((y.2 : Int), (q : Int))) (ys := List.range y.1.movs.length) (acc := [])
        (env := [some (s.enc, .p), some (.list ((pre.flatMap fun p => (idleC s p.1).map fun (k : Nat) => ((p.2 : Int), (k : Int))).map pairD), .o), some (.int (y.2 : Nat), .p), some (.tuple (y.1.movs.map movD), .p), some (.tuple (y.1.splits.map splitD), .p), some (.tuple (y.1.prizes.map .int), .p), some (.list ((allFacts s.room).map fun fs => natD (y.1.first fs)), .o), none, none]) (by
          intro q hq
          refine ⟨_, [some (s.enc, .p), some (.list ((pre.flatMap fun p => (idleC s p.1).map fun (k : Nat) => ((p.2 : Int), (k : Int))).map pairD), .o), some (.int (y.2 : Nat), .p), some (.tuple (y.1.movs.map movD), .p), some (.tuple (y.1.splits.map splitD), .p), some (.tuple (y.1.prizes.map .int), .p), some (.list ((allFacts s.room).map fun fs => natD (y.1.first fs)), .o), none, some (.int q, .p)], rfl, ?_, fun _ => rfl, fun _ => ⟨false, [some (s.enc, .p), some (.list ((pre.flatMap fun p => (idleC s p.1).map fun (k : Nat) => ((p.2 : Int), (k : Int))).map pairD), .o), some (.int (y.2 : Nat), .p), some (.tuple (y.1.movs.map movD), .p), some (.tuple (y.1.splits.map splitD), .p), some (.tuple (y.1.prizes.map .int), .p), some (.list ((allFacts s.room).map fun fs => natD (y.1.first fs)), .o), none, some (.int q, .p)], ?_, rfl⟩⟩
          · have hq2 := hin q
            cases hb : ((allFacts s.room).find? fun fs => decide (y.1.first fs = some q)).isNone <;> rw [hb] at hq2 <;> simp [ir_idle_ones_c1, evCs, runFn, exs, ex, ev, evs, evArgs, evO, evAnd, evOr, evIt, entry, tst, truE, rdOf, tkOf, fstOf, lateOf, quiet, quiets, quietO, pers, look, keepV, readV, takeV, copV, bopV, biV, bi2V, truV, fin, okFin, finals, callNow, argsNow, argNow, lent, back, hidOf, hid2Of, VI.bind, VI.binds, tgs, tgss, asgI, asgs, wipeE, unset, keepP, items, hq2]
          · simp [ir_idle_ones_e2, runFn, exs, ex, ev, evs, evArgs, evO, evAnd, evOr, evIt, entry, tst, truE, rdOf, tkOf, fstOf, lateOf, quiet, quiets, quietO, pers, look, keepV, readV, takeV, copV, bopV, biV, bi2V, truV, fin, okFin, finals, callNow, argsNow, argNow, lent, back, hidOf, hid2Of, VI.bind, VI.binds, tgs, tgss, asgI, asgs, wipeE, unset, keepP, items, pairD]) (sizeLine_big (by simp; omega))
      have c3 : ((List.range y.1.movs.length).filter fun q => ((allFacts s.room).find? fun fs => decide (y.1.first fs = some q)).isNone).map (fun (q : Nat) => pairD ((y.2 : Int), (q : Int))) = ((idleC s y.1).map fun (k : Nat) => ((y.2 : Int), (k : Int))).map pairD := by
        unfold idleC
        rw [List.map_map]
        rfl
      rw [c3] at c2
      have hil : (idleC s y.1).length ≤ y.1.movs.length := by
        unfold idleC
        exact Nat.le_trans (List.length_filter_le _ _) (by simp)
      have z1 : int62 (y.1.movs.length : Int) = true := by simp only [int62, decide_eq_true_eq]; omega
      refine ⟨_, [some (s.enc, .p), some (.list (((pre ++ [y]).flatMap fun p => (idleC s p.1).map fun (k : Nat) => ((p.2 : Int), (k : Int))).map pairD), .o), some (.int (y.2 : Nat), .p), some (.tuple (y.1.movs.map movD), .p), some (.tuple (y.1.splits.map splitD), .p), some (.tuple (y.1.prizes.map .int), .p), some (.list ((allFacts s.room).map fun fs => natD (y.1.first fs)), .o), none, none], rfl, Or.inl ?_, _, _, _, _, _, rfl⟩
      have hsz : (((pre.flatMap fun p => (idleC s p.1).map fun (k : Nat) => ((p.2 : Int), (k : Int))).map pairD).length + (((idleC s y.1).map fun (k : Nat) => ((y.2 : Int), (k : Int))).map pairD).length) ≤ sizeLine := by
        rw [List.length_map, List.length_map, List.length_map]
        exact sizeLine_big (by omega)
      rw [List.flatMap_append, List.map_append]
      have hone : ([y].flatMap fun p => (idleC s p.1).map fun (k : Nat) => ((p.2 : Int), (k : Int))) = (idleC s y.1).map fun (k : Nat) => ((y.2 : Int), (k : Int)) := by simp
      rw [hone]
      generalize (pre.flatMap fun p => (idleC s p.1).map fun (k : Nat) => ((p.2 : Int), (k : Int))).map pairD = F at *
      generalize ((idleC s y.1).map fun (k : Nat) => ((y.2 : Int), (k : Int))).map pairD = N at *
      simp only [List.nil_append] at c1 c2
      simp [ir_idle_ones_b1, runFn, exs, ex, ev, evs, evArgs, evO, evAnd, evOr, evIt, entry, tst, truE, rdOf, tkOf, fstOf, lateOf, quiet, quiets, quietO, pers, look, keepV, readV, takeV, copV, bopV, biV, bi2V, truV, fin, okFin, finals, callNow, argsNow, argNow, lent, back, hidOf, hid2Of, VI.bind, VI.binds, tgs, tgss, asgI, asgs, wipeE, unset, keepP, items, e0, hA, c1, z1, rngD0, c2, muV, extendV, hsz])
  rw [← enumD_enc] at h1
  subst h2
  have e2 : (s.cls.zipIdx.flatMap fun p => (idleC s p.1).map fun (k : Nat) => ((p.2 : Int), (k : Int))) = idleL s := rfl
  rw [e2] at h1
  simp [ir_idle_ones, runFn, exs, ex, ev, evs, evArgs, evO, evAnd, evOr, evIt, entry, tst, truE, rdOf, tkOf, fstOf, lateOf, quiet, quiets, quietO, pers, look, keepV, readV, takeV, copV, bopV, biV, bi2V, truV, fin, okFin, finals, callNow, argsNow, argNow, lent, back, hidOf, hid2Of, VI.bind, VI.binds, tgs, tgss, asgI, asgs, wipeE, unset, keepP, items, e1, h1]
end
end VI
set_option maxRecDepth 100000
set_option maxHeartbeats 4000000
/-! Ends of facts. -/
namespace VI
open PySem
/-- 0:show 1:c 2:facts -/
def ir_ends_at (f_judged_at : Nat) : Fn := ⟨3, 3,
   [(.ret (.call f_judged_at [(.var 0), (.tup [(.cst (.int 0)), (.var 1), (.var 2)])]))], []⟩
/-- 0:show 1:c 2:one 3:facts -/
def ir_comes_b1 (f_ends_at : Nat) : List IS := [(.ifs (.cmp .eq (.call f_ends_at [(.var 0), (.var 2), (.var 3)]) (.var 1)) [(.ret (.tup [(.var 2), (.var 3)]))] [])]
def ir_comes_b2 (f_all_facts f_ends_at : Nat) : List IS := [(.for_ (.nm 3) (.val (.call f_all_facts [(.ix (.var 0) (.cst (.int 0)))])) (ir_comes_b1 f_ends_at))]
@[simp] theorem ir_comes_b1_asgs {f_ends_at : Nat} : asgs (ir_comes_b1 f_ends_at) = [] := by rfl
@[simp] theorem ir_comes_b2_asgs {f_all_facts f_ends_at : Nat} : asgs (ir_comes_b2 f_all_facts f_ends_at) = [3] := by rfl
def ir_comes (f_all_facts f_ends_at : Nat) : Fn := ⟨2, 4,
   [(.for_ (.nm 2) (.rng1 (.bi .len (.ix (.var 0) (.cst (.int 1))))) (ir_comes_b2 f_all_facts f_ends_at)),
    (.ret (.cst .none))], [2, 3]⟩
/-- 0:show 1:c -/
def ir_barren_e1 : IE := (.var 1)
def ir_barren_c1 (f_comes : Nat) : List IE := [(.cmp .is_ (.call f_comes [(.var 0), (.var 1)]) (.cst .none))]
def ir_barren (f_comes : Nat) : Fn := ⟨1, 2,
   [(.ret (.cmpr ir_barren_e1 (.nm 1) (.rng1 (.bi .len (.ix (.var 0) (.cst (.int 1))))) (ir_barren_c1 f_comes)))], []⟩
theorem facts_worth {room fs : List Int} (hr : IsRoom room) (h : fs ∈ allFacts room) : ∀ (i : Nat) x w, fs[i]? = some x → room[i]? = some w → 0 ≤ x ∧ x < w := by
  have := by_rooms (p := fun r => (allFacts r).all fun fs => (fs.zip r).all fun q => decide (0 ≤ q.1) && decide (q.1 < q.2)) (by decide +kernel) hr
  have h2 := List.all_eq_true.1 (List.all_eq_true.1 this fs h)
  intro i x w h3 h4
  have h5 : (fs.zip room)[i]? = some (x, w) := List.getElem?_zip_eq_some.2 ⟨h3, h4⟩
  have := h2 (x, w) (List.mem_of_getElem? h5)
  simpa using this
theorem ent_ok {s : Show} (hs : ShowOK s) {c : Nat} {fs : List Int} (hc : c < s.cls.length) (hf : fs ∈ allFacts s.room) {g : Int} (h0 : 0 ≤ g) (h8 : g < 8) : EntOK s ⟨g, c, fs⟩ :=
  ⟨h0, h8, hc, allFacts_mem fs hf, facts_worth hs.r hf⟩
theorem endF_more {st : Nat → Option Nat} {x : Nat} : ∀ (k j c : Nat), endF st k c = some x → endF st (k + j) c = some x
  | 0, _, _, h => by cases h
  | k + 1, j, c, h => by
    rw [show k + 1 + j = (k + j) + 1 by omega]
    unfold endF at h ⊢
    cases hs : st c with
    | none => rw [hs] at h; exact h
    | some c' => rw [hs] at h; exact endF_more k j c' h
theorem endF_lt {st : Nat → Option Nat} {n x : Nat} (hst : ∀ c c', st c = some c' → c' < n) : ∀ (k c : Nat), c < n → endF st k c = some x → x < n
  | 0, _, _, h => by cases h
  | k + 1, c, hc, h => by
    unfold endF at h
    cases hs : st c with
    | none => rw [hs] at h; cases h; exact hc
    | some c' => rw [hs] at h; exact endF_lt hst k c' (hst c c' hs) h
theorem ends_lt {s : Show} {e : Ent} {x : Nat} (hs : ShowOK s) (he : EntOK s e) (h : s.ends e = some x) : x < s.cls.length :=
  endF_lt (fun c c' h => (step_ok hs h).1) _ _ he.c h
theorem ends_7 {s : Show} {e : Ent} (hs : ShowOK s) (he : EntOK s e) : endF (s.step e.fs) 7 e.c = s.ends e := by
  obtain ⟨h1, h2⟩ := way_end (st := s.step e.fs) (n := s.cls.length) (fun c c' h => (step_ok hs h).1) (s.cls.length + 1) [] e.c (by simp) (by simp; exact he.c) (by simp) (by simp)
  cases hw : (wayF (s.step e.fs) (s.cls.length + 1) [] e.c).1 with
  | false => rw [h2 hw 7]; exact (h2 hw _).symm
  | true =>
    obtain ⟨l, x, _, b⟩ := (way_ends hs he).1 hw
    rw [b]
    have h6 := hs.c6
    have := endF_more s.cls.length (7 - s.cls.length) e.c b
    rwa [show s.cls.length + (7 - s.cls.length) = 7 by omega] at this
section
variable {Γ : List Fn} {f n f_meets f_judged f_ends f_all f_comes : Nat} {C : CallF}
theorem judged3_lev (hf : Γ[f]? = some (irJudged3 f_meets)) (hL : Lev Γ n (MeetsC f_meets 5)) : Lev Γ (n + 1) (JudgedAtC f) := by
  refine lev_of fun k hk s e hs he => ?_
  rw [call_at hf]
  obtain ⟨s2', s3', s4', h1⟩ := end_loop (C := call Γ k) hs he (hL k hk) (List.range 7) e.c none none he.c
  have e2 : ixV e.enc (.int 1) = some (.int e.c) := at1
  have z1 : int62 7 = true := by rfl
  have z2 : Int.toNat 7 = 7 := rfl
  rw [List.length_range, ends_7 hs he, show ir__law_end_b1 f_meets = irJudged3_b1 f_meets from rfl] at h1
  cases h : s.ends e with
  | none => rw [h] at h1; simp [irJudged3, runFn, exs, ex, ev, evs, evArgs, evO, evAnd, evOr, evIt, entry, tst, truE, rdOf, tkOf, fstOf, lateOf, quiet, quiets, quietO, pers, look, keepV, readV, takeV, copV, bopV, biV, bi2V, truV, fin, okFin, finals, callNow, argsNow, argNow, lent, back, hidOf, hid2Of, VI.bind, VI.binds, tgs, tgss, asgI, asgs, wipeE, unset, keepP, items, e2, z1, z2, rngD0, h1, natD]
  | some x => rw [h] at h1; simp [irJudged3, runFn, exs, ex, ev, evs, evArgs, evO, evAnd, evOr, evIt, entry, tst, truE, rdOf, tkOf, fstOf, lateOf, quiet, quiets, quietO, pers, look, keepV, readV, takeV, copV, bopV, biV, bi2V, truV, fin, okFin, finals, callNow, argsNow, argNow, lent, back, hidOf, hid2Of, VI.bind, VI.binds, tgs, tgss, asgI, asgs, wipeE, unset, keepP, items, e2, z1, z2, rngD0, h1, natD]
def EndsAtC (f : Nat) (C : CallF) : Prop := ∀ (s : Show) (c : Nat) (fs : List Int), ShowOK s → c < s.cls.length → fs ∈ allFacts s.room → C f [(s.enc, false), (.int c, false), (T fs, false)] = some (natD (s.ends ⟨0, c, fs⟩), false, [(s.enc, false), (.int c, false), (T fs, false)])
theorem endsAt_lev (hf : Γ[f]? = some (ir_ends_at f_judged)) (hJ : Lev Γ n (JudgedAtC f_judged)) : Lev Γ (n + 1) (EndsAtC f) := by
  refine lev_of fun k hk s c fs hs hc hfs => ?_
  rw [call_at hf]
  have e := hJ k hk s ⟨0, c, fs⟩ hs (ent_ok hs hc hfs (by decide) (by decide))
  simp only [Ent.enc] at e
  simp [ir_ends_at, runFn, exs, ex, ev, evs, evArgs, evO, evAnd, evOr, evIt, entry, tst, truE, rdOf, tkOf, fstOf, lateOf, quiet, quiets, quietO, pers, look, keepV, readV, takeV, copV, bopV, biV, bi2V, truV, fin, okFin, finals, callNow, argsNow, argNow, lent, back, hidOf, hid2Of, VI.bind, VI.binds, tgs, tgss, asgI, asgs, wipeE, unset, keepP, items, e]
def pairsL (s : Show) (cs : List Nat) : List (Nat × List Int) := cs.flatMap fun c => (allFacts s.room).map fun fs => (c, fs)
def lookP (s : Show) (d : Nat) (P : List (Nat × List Int)) : Option (Nat × List Int) := P.find? fun q => decide (s.ends ⟨0, q.1, q.2⟩ = some d)
def optPD : Option (Nat × List Int) → PyData
  | some q => .tuple [.int (q.1 : Nat), T q.2]
  | none => .none
def ComesC (f : Nat) (C : CallF) : Prop := ∀ (s : Show) (d : Nat), ShowOK s → C f [(s.enc, false), (.int d, false)] = some (optPD (lookP s d (pairsL s (List.range s.cls.length))), false, [(s.enc, false), (.int d, false)])
theorem comes_loop {s : Show} {d : Nat} (hs : ShowOK s) (hA : AllFactsC f_all C) (hE : EndsAtC f_ends C) : ∀ (ys : List Nat) (s2 s3 : Slot), (∀ y ∈ ys, y < s.cls.length) → ∃ s2' s3',
    forL (.nm 2) (exs C (ir_comes_b2 f_all f_ends)) (ys.map fun (i : Nat) => PyData.int i) [some (s.enc, .p), some (.int d, .p), s2, s3] =
      some (match lookP s d (pairsL s ys) with
        | some q => .rt (optPD (some q)) false
        | none => .nx, [some (s.enc, .p), some (.int d, .p), s2', s3'])
  | [], s2, s3, _ => ⟨s2, s3, rfl⟩
  | y :: ys, s2, s3, hy => by
    have hy0 := hy y (List.mem_cons_self ..)
    have hA' := hA s.room hs.r
    have e0 : ixV s.enc (.int 0) = some (T s.room) := at0
    have hF := forL_find (t := .nm 3) (b := exs C (ir_comes_b1 f_ends)) T (fun fs => decide (s.ends ⟨0, y, fs⟩ = some d)) (fun fs => .tuple [.int (y : Nat), T fs]) (fun _ => false) (fun env => ∃ s3, env = [some (s.enc, .p), some (.int d, .p), some (.int y, .p), s3]) (fun env => ∃ s3, env = [some (s.enc, .p), some (.int d, .p), some (.int y, .p), s3]) (ys := allFacts s.room)
      (env := [some (s.enc, .p), some (.int d, .p), some (.int y, .p), s3]) ⟨_, rfl⟩ (by
        rintro fs hfs env ⟨s3, rfl⟩
        have m1 := hE s y fs hs hy0 hfs
        have m2 := eq_natD (s.ends ⟨0, y, fs⟩) d
        refine ⟨_, [some (s.enc, .p), some (.int d, .p), some (.int y, .p), some (T fs, .p)], rfl, fun h => ⟨Or.inl ?_, _, rfl⟩, fun h => ⟨?_, _, rfl⟩⟩
        · rw [h] at m2; simp [ir_comes_b1, runFn, exs, ex, ev, evs, evArgs, evO, evAnd, evOr, evIt, entry, tst, truE, rdOf, tkOf, fstOf, lateOf, quiet, quiets, quietO, pers, look, keepV, readV, takeV, copV, bopV, biV, bi2V, truV, fin, okFin, finals, callNow, argsNow, argNow, lent, back, hidOf, hid2Of, VI.bind, VI.binds, tgs, tgss, asgI, asgs, wipeE, unset, keepP, items, m1, m2]
        · rw [h] at m2; simp [ir_comes_b1, runFn, exs, ex, ev, evs, evArgs, evO, evAnd, evOr, evIt, entry, tst, truE, rdOf, tkOf, fstOf, lateOf, quiet, quiets, quietO, pers, look, keepV, readV, takeV, copV, bopV, biV, bi2V, truV, fin, okFin, finals, callNow, argsNow, argNow, lent, back, hidOf, hid2Of, VI.bind, VI.binds, tgs, tgss, asgI, asgs, wipeE, unset, keepP, items, m1, m2])
    have hb : VI.bind (.nm 2) (.int y) [some (s.enc, .p), some (.int d, .p), s2, s3] = some [some (s.enc, .p), some (.int d, .p), some (.int y, .p), s3] := rfl
    have hl : lookP s d (pairsL s (y :: ys)) = (((allFacts s.room).find? fun fs => decide (s.ends ⟨0, y, fs⟩ = some d)).map fun fs => (y, fs)).or (lookP s d (pairsL s ys)) := by
      unfold lookP pairsL
      rw [List.flatMap_cons, List.find?_append, List.find?_map]
      rfl
    rw [hl]
    split at hF
    · rename_i e
      obtain ⟨env', h1, s3', rfl⟩ := hF
      have hb2 : exs C (ir_comes_b2 f_all f_ends) [some (s.enc, .p), some (.int d, .p), some (.int y, .p), s3] = some (.nx, [some (s.enc, .p), some (.int d, .p), some (.int y, .p), s3']) := by
        simp [ir_comes_b2, runFn, exs, ex, ev, evs, evArgs, evO, evAnd, evOr, evIt, entry, tst, truE, rdOf, tkOf, fstOf, lateOf, quiet, quiets, quietO, pers, look, keepV, readV, takeV, copV, bopV, biV, bi2V, truV, fin, okFin, finals, callNow, argsNow, argNow, lent, back, hidOf, hid2Of, VI.bind, VI.binds, tgs, tgss, asgI, asgs, wipeE, unset, keepP, items, e0, hA', h1]
      obtain ⟨s2'', s3'', h2⟩ := comes_loop hs hA hE ys (some (.int y, .p)) s3' (fun z hz => hy z (List.mem_cons_of_mem _ hz))
      refine ⟨s2'', s3'', ?_⟩
      rw [e]
      simp only [List.map_cons, forL, hb, hb2, Option.map_none, Option.none_or]
      exact h2
    · rename_i fs e
      obtain ⟨env', h1, s3', rfl⟩ := hF
      have hb2 : exs C (ir_comes_b2 f_all f_ends) [some (s.enc, .p), some (.int d, .p), some (.int y, .p), s3] = some (.rt (.tuple [.int (y : Nat), T fs]) false, [some (s.enc, .p), some (.int d, .p), some (.int y, .p), s3']) := by
        simp [ir_comes_b2, runFn, exs, ex, ev, evs, evArgs, evO, evAnd, evOr, evIt, entry, tst, truE, rdOf, tkOf, fstOf, lateOf, quiet, quiets, quietO, pers, look, keepV, readV, takeV, copV, bopV, biV, bi2V, truV, fin, okFin, finals, callNow, argsNow, argNow, lent, back, hidOf, hid2Of, VI.bind, VI.binds, tgs, tgss, asgI, asgs, wipeE, unset, keepP, items, e0, hA', h1]
      refine ⟨some (.int y, .p), s3', ?_⟩
      rw [e]
      simp only [List.map_cons, forL, hb, hb2, Option.map_some, Option.some_or, optPD]
theorem comes_lev (hf : Γ[f]? = some (ir_comes f_all f_ends)) (hA : Lev Γ n (AllFactsC f_all)) (hE : Lev Γ n (EndsAtC f_ends)) : Lev Γ (n + 1) (ComesC f) := by
  refine lev_of fun k hk s d hs => ?_
  rw [call_at hf]
  obtain ⟨s2', s3', h1⟩ := comes_loop (C := call Γ k) (d := d) hs (hA k hk) (hE k hk) (List.range s.cls.length) none none (fun y hy => List.mem_range.1 hy)
  have e1 : ixV s.enc (.int 1) = some (.tuple (s.cls.map Cls.enc)) := at1
  have z1 : int62 (s.cls.length : Int) = true := by have := hs.c6; simp only [int62, decide_eq_true_eq]; omega
  cases h : lookP s d (pairsL s (List.range s.cls.length)) with
  | none => rw [h] at h1; simp [ir_comes, runFn, exs, ex, ev, evs, evArgs, evO, evAnd, evOr, evIt, entry, tst, truE, rdOf, tkOf, fstOf, lateOf, quiet, quiets, quietO, pers, look, keepV, readV, takeV, copV, bopV, biV, bi2V, truV, fin, okFin, finals, callNow, argsNow, argNow, lent, back, hidOf, hid2Of, VI.bind, VI.binds, tgs, tgss, asgI, asgs, wipeE, unset, keepP, items, e1, z1, rngD0, h1, optPD]
  | some q => rw [h] at h1; simp [ir_comes, runFn, exs, ex, ev, evs, evArgs, evO, evAnd, evOr, evIt, entry, tst, truE, rdOf, tkOf, fstOf, lateOf, quiet, quiets, quietO, pers, look, keepV, readV, takeV, copV, bopV, biV, bi2V, truV, fin, okFin, finals, callNow, argsNow, argNow, lent, back, hidOf, hid2Of, VI.bind, VI.binds, tgs, tgss, asgI, asgs, wipeE, unset, keepP, items, e1, z1, rngD0, h1, optPD]
def barL (s : Show) : List Nat := (List.range s.cls.length).filter fun d => (lookP s d (pairsL s (List.range s.cls.length))).isNone
def BarrenC (f : Nat) (C : CallF) : Prop := ∀ (s : Show), ShowOK s → C f [(s.enc, false)] = some (.list (natsD (barL s)), true, [(s.enc, false)])
theorem barren_lev (hf : Γ[f]? = some (ir_barren f_comes)) (hC : Lev Γ n (ComesC f_comes)) : Lev Γ (n + 1) (BarrenC f) := by
  refine lev_of fun k hk s hs => ?_
  rw [call_at hf]
  have hC := hC k hk
  have h6 := hs.c6
  have e1 : ixV s.enc (.int 1) = some (.tuple (s.cls.map Cls.enc)) := at1
  have c2 := compL_pure (t := .nm 1) (own := [1]) (cs := evCs (call Γ k) (ir_barren_c1 f_comes)) (e := ev (call Γ k) ir_barren_e1) (fun (q : Nat) => PyData.int q) (fun d => (lookP s d (pairsL s (List.range s.cls.length))).isNone) (fun (q : Nat) => PyData.int q) (ys := List.range s.cls.length) (acc := [])
    (env := [some (s.enc, .p), none]) (by
      intro q hq
      have m := hC s q hs
      refine ⟨_, [some (s.enc, .p), some (.int q, .p)], rfl, ?_, fun _ => rfl, fun _ => ⟨false, [some (s.enc, .p), some (.int q, .p)], ?_, rfl⟩⟩
      · cases h : lookP s q (pairsL s (List.range s.cls.length)) <;> rw [h] at m <;> simp [ir_barren_c1, evCs, runFn, exs, ex, ev, evs, evArgs, evO, evAnd, evOr, evIt, entry, tst, truE, rdOf, tkOf, fstOf, lateOf, quiet, quiets, quietO, pers, look, keepV, readV, takeV, copV, bopV, biV, bi2V, truV, fin, okFin, finals, callNow, argsNow, argNow, lent, back, hidOf, hid2Of, VI.bind, VI.binds, tgs, tgss, asgI, asgs, wipeE, unset, keepP, items, m, optPD]
      · simp [ir_barren_e1, runFn, exs, ex, ev, evs, evArgs, evO, evAnd, evOr, evIt, entry, tst, truE, rdOf, tkOf, fstOf, lateOf, quiet, quiets, quietO, pers, look, keepV, readV, takeV, copV, bopV, biV, bi2V, truV, fin, okFin, finals, callNow, argsNow, argNow, lent, back, hidOf, hid2Of, VI.bind, VI.binds, tgs, tgss, asgI, asgs, wipeE, unset, keepP, items]) (sizeLine_big (by simp; omega))
  have z1 : int62 (s.cls.length : Int) = true := by simp only [int62, decide_eq_true_eq]; omega
  simp only [List.nil_append] at c2
  rw [show ((List.range s.cls.length).filter fun d => (lookP s d (pairsL s (List.range s.cls.length))).isNone).map (fun (q : Nat) => PyData.int q) = natsD (barL s) from rfl] at c2
  simp [ir_barren, runFn, exs, ex, ev, evs, evArgs, evO, evAnd, evOr, evIt, entry, tst, truE, rdOf, tkOf, fstOf, lateOf, quiet, quiets, quietO, pers, look, keepV, readV, takeV, copV, bopV, biV, bi2V, truV, fin, okFin, finals, callNow, argsNow, argNow, lent, back, hidOf, hid2Of, VI.bind, VI.binds, tgs, tgss, asgI, asgs, wipeE, unset, keepP, items, e1, z1, rngD0, c2]
end
end VI
set_option maxRecDepth 100000
set_option maxHeartbeats 4000000
namespace K93
open PySem VI
abbrev f_all_facts : Nat := 0
abbrev f_meets : Nat := 1
abbrev f_moved : Nat := 2
abbrev f_way : Nat := 3
abbrev f_judged_at : Nat := 4
abbrev f_ends_at : Nat := 5
abbrev f_comes : Nat := 6
abbrev f_barren : Nat := 7
abbrev f__law_pen : Nat := 8
abbrev f__law_take : Nat := 9
abbrev f__law_plain : Nat := 10
abbrev f__law_meets : Nat := 11
abbrev f__law_judged : Nat := 12
abbrev f__law_there : Nat := 13
abbrev f__law_test : Nat := 14
abbrev f__law_new_test : Nat := 15
abbrev f__law_class : Nat := 16
abbrev f__law_cup : Nat := 17
abbrev f__law_show : Nat := 18
abbrev f__law_state : Nat := 19
abbrev f__law_order : Nat := 20
abbrev f__law_all_facts : Nat := 21
abbrev f__law_first : Nat := 22
abbrev f__law_right : Nat := 23
abbrev f_law : Nat := 24
def ir_all_facts : Fn := VI.ir_all_facts
def ir_meets : Fn := VI.ir_meets f_meets
def ir_moved : Fn := VI.ir_moved f_meets
def ir_way : Fn := VI.ir_way f_moved
def ir_judged_at : Fn := VI.ir_judged_at f_way
def ir_ends_at : Fn := VI.ir_ends_at f_judged_at
def ir_comes : Fn := VI.ir_comes f_all_facts f_ends_at
def ir_barren : Fn := VI.ir_barren f_comes
def ir__law_pen : Fn := VI.irPen3
def ir__law_take : Fn := VI.irTake3
def ir__law_plain : Fn := VI.irPlain3 f__law_plain
def ir__law_meets : Fn := VI.irMeets3 f__law_meets
def ir__law_judged : Fn := VI.irJudged3 f__law_meets
def ir__law_there_e1 : IE := (.var 3)
def ir__law_there_c1 : List IE := [(.andv [(.cmp .notin (.var 3) (.ix (.var 1) (.cst (.int 1)))), (.cmp .eq (.call f__law_judged [(.var 0), (.var 4)]) (.var 2))])]
/-- 0:_law_show_here 1:_law_state_here 2:_law_c 3:_law_k 4:_law_entry -/
def ir__law_there : Fn := ⟨3, 5,
   [(.ret (.cmpr ir__law_there_e1 (.tp [(.nm 3), (.nm 4)]) (.enum (.ix (.var 1) (.cst (.int 0)))) ir__law_there_c1))], []⟩
def ir__law_test : Fn := VI.irTest3 f__law_take f__law_test
def ir__law_new_test : Fn := VI.irNewTest3 f__law_take f__law_test
def ir__law_class : Fn := VI.irClass3 f__law_take f__law_new_test
def ir__law_cup : Fn := VI.irCup3 f__law_take
def ir__law_show : Fn := VI.irShow3 f__law_take f__law_class f__law_cup
def ir__law_state_e1 : IE := (.call f__law_take [(.var 0), (.var 7)])
def ir__law_state_b1 : List IS := [(.asg (.nm 6) (.bi .tuple (.cmpr ir__law_state_e1 (.nm 7) (.val (.ix (.var 1) (.cst (.int 0)))) []))),
    (.asg (.nm 8) (.tup [(.call f__law_take [(.var 0), (.var 4)]), (.call f__law_take [(.var 0), (.bi .len (.ix (.var 1) (.cst (.int 1))))]), (.var 6)])),
    (.asg (.nm 9) (.call f__law_judged [(.var 1), (.var 8)])),
    (.ifs (.andv [(.cmp .lt (.bi .len (.var 2)) (.cst (.int 24))), (.orv [(.cmp .is_ (.var 9) (.cst .none)), (.cmp .lt (.ix (.var 3) (.var 9)) (.cst (.int 8)))])]) [(.ex (.mu .append 2 [(.var 8)])),
    (.ifs (.cmp .isnot (.var 9) (.cst .none)) [(.set 3 (.var 9) (.bop .add (.ix (.var 3) (.var 9)) (.cst (.int 1))))] [])] [])]
def ir__law_state_e2 : IE := (.var 5)
def ir__law_state_c1 : List IE := [(.andv [(.cmp .eq (.call f__law_take [(.var 0), (.var 10)]) (.cst (.int 0))), (.cmp .lt (.var 10) (.cst (.int 9)))])]
def ir__law_state_e3 : IE := (.var 5)
def ir__law_state_c2 : List IE := [(.cmp .eq (.call f__law_judged [(.var 1), (.var 8)]) (.var 9))]
def ir__law_state_b2 : List IS := [(.ex (.mu .append 12 [(.call f__law_order [(.var 0), (.cmpr ir__law_state_e3 (.tp [(.nm 5), (.nm 8)]) (.enum (.var 2)) ir__law_state_c2)])])),
    (.ifs (.cmp .eq (.call f__law_take [(.var 0), (.cst (.int 5))]) (.cst (.int 0))) [(.set 12 (.var 9) (.cst .none))] [])]
@[simp] theorem ir__law_state_b1_asgs : asgs ir__law_state_b1 = [6, 8, 9] := by rfl
@[simp] theorem ir__law_state_b2_asgs : asgs ir__law_state_b2 = [] := by rfl
/-- 0:_law_pen_here 1:_law_show_here 2:_law_entries 3:_law_full 4:_law_growers 5:_law_k 6:_law_facts 7:_law_many 8:_law_entry 9:_law_c 10:_law_share 11:_law_struck 12:_law_orders -/
def ir__law_state : Fn := ⟨2, 13,
   [(.asg (.nm 2) (.lst [])),
    (.asg (.nm 3) (.bop .mul (.lst [(.cst (.int 0))]) (.bi .len (.ix (.var 1) (.cst (.int 1)))))),
    (.asg (.nm 4) (.ix (.lst [(.cst (.int 1)), (.cst (.int 3)), (.cst (.int 8))]) (.call f__law_take [(.var 0), (.cst (.int 3))]))),
    (.for_ (.nm 5) (.rng1 (.ix (.lst [(.call f__law_take [(.var 0), (.cst (.int 10))]), (.call f__law_take [(.var 0), (.cst (.int 31))])]) (.call f__law_take [(.var 0), (.cst (.int 2))]))) ir__law_state_b1),
    (.asg (.nm 10) (.ix (.lst [(.cst (.int 5)), (.cst (.int 9)), (.cst (.int 3)), (.cst (.int 1))]) (.call f__law_take [(.var 0), (.cst (.int 4))]))),
    (.asg (.nm 11) (.bi .tuple (.cmpr ir__law_state_e2 (.nm 5) (.rng1 (.bi .len (.var 2))) ir__law_state_c1))),
    (.asg (.nm 12) (.lst [])),
    (.for_ (.nm 9) (.rng1 (.bi .len (.ix (.var 1) (.cst (.int 1))))) ir__law_state_b2),
    (.ret (.tup [(.bi .tuple (.var 2)), (.var 11), (.bi .tuple (.var 12))]))], [2, 3, 4, 5, 6, 8, 9, 10, 11, 12, 9]⟩
def ir__law_order_b1 : List IS := [(.ex (.mu .append 3 [(.mu .pop 2 [(.call f__law_take [(.var 0), (.bi .len (.var 2))])])]))]
@[simp] theorem ir__law_order_b1_asgs : asgs ir__law_order_b1 = [] := by rfl
/-- 0:_law_pen_here 1:_law_numbers 2:_law_left 3:_law_found -/
def ir__law_order : Fn := ⟨2, 4,
   [(.asg (.nm 2) (.bi .list (.var 1))),
    (.asg (.nm 3) (.lst [])),
    (.whl (.cmp .ne (.var 2) (.lst [])) ir__law_order_b1),
    (.ret (.bi .tuple (.var 3)))], [2, 3]⟩
def ir__law_all_facts : Fn := VI.irAll3
def ir__law_first : Fn := VI.irFirst3 f__law_meets
def ir__law_right_b1 : List IS := [(.asg (.nm 4) (.call f__law_judged [(.var 0), (.tup [(.cst (.int 7)), (.var 2), (.var 3)])])),
    (.ifs (.nt (.call f__law_plain [(.call f_ends_at [(.var 0), (.var 2), (.var 3)]), (.var 4)])) [(.ret (.cst (.bool false)))] []),
    (.ifs (.andv [(.cmp .isnot (.var 4) (.cst .none)), (.cmp .is_ (.ix (.var 1) (.var 4)) (.cst .none))]) [(.set 1 (.var 4) (.tup [(.var 2), (.var 3)]))] [])]
def ir__law_right_b2 : List IS := [(.for_ (.nm 3) (.val (.call f__law_all_facts [(.ix (.var 0) (.cst (.int 0)))])) ir__law_right_b1)]
def ir__law_right_e1 : IE := (.call f__law_plain [(.call f_comes [(.var 0), (.var 2)]), (.ix (.var 1) (.var 2))])
def ir__law_right_e2 : IE := (.var 2)
def ir__law_right_c1 : List IE := [(.cmp .is_ (.ix (.var 1) (.var 2)) (.cst .none))]
def ir__law_right_b3 : List IS := [(.asg (.nm 6) (.call f_barren [(.var 0)])),
    (.ifs (.nt (.call f__law_plain [(.var 6), (.cmpr ir__law_right_e2 (.nm 2) (.rng1 (.bi .len (.ix (.var 0) (.cst (.int 1))))) ir__law_right_c1)])) [(.ret (.cst (.bool false)))] []),
    (.ex (.mu .append 6 [(.cst (.int 0))])),
    (.ex (.mu .reverse 6 []))]
@[simp] theorem ir__law_right_b1_asgs : asgs ir__law_right_b1 = [4] := by rfl
@[simp] theorem ir__law_right_b2_asgs : asgs ir__law_right_b2 = [3, 4] := by rfl
@[simp] theorem ir__law_right_b3_asgs : asgs ir__law_right_b3 = [6] := by rfl
/-- 0:_law_show_here 1:_law_firsts 2:_law_c 3:_law_facts 4:_law_due 5:_law_turn 6:_law_found -/
def ir__law_right : Fn := ⟨1, 7,
   [(.asg (.nm 1) (.bop .mul (.lst [(.cst .none)]) (.bi .len (.ix (.var 0) (.cst (.int 1)))))),
    (.for_ (.nm 2) (.rng1 (.bi .len (.ix (.var 0) (.cst (.int 1))))) ir__law_right_b2),
    (.ifs (.nt (.bi .all (.cmpr ir__law_right_e1 (.nm 2) (.rng1 (.bi .len (.ix (.var 0) (.cst (.int 1))))) []))) [(.ret (.cst (.bool false)))] []),
    (.for_ (.nm 5) (.rng1 (.cst (.int 2))) ir__law_right_b3),
    (.ret (.cst (.bool true)))], [1, 2, 3, 4, 5, 6]⟩
def ir_law_b1 : List IS := [(.asg (.nm 4) (.bi .repr (.var 3))),
    (.ifs (.orv [(.nt (.call f__law_right [(.var 3)])), (.cmp .ne (.bi .repr (.var 3)) (.var 4))]) [(.ret (.cst (.bool false)))] [])]
@[simp] theorem ir_law_b1_asgs : asgs ir_law_b1 = [4] := by rfl
/-- 0:_law_script 1:_law_pen_here 2:_law_some 3:_law_show_here 4:_law_kept -/
def ir_law : Fn := ⟨1, 5,
   [(.asg (.nm 1) (.call f__law_pen [(.var 0)])),
    (.asg (.nm 2) (.lst [(.call f__law_show [(.var 1), (.cst (.int 6)), (.cst (.int 0))]), (.call f__law_show [(.var 1), (.cst (.int 3)), (.cst (.int 0))])])),
    (.for_ (.nm 3) (.val (.bop .add (.var 2) (.sl (.var 2) none (some (.cst (.int 1)))))) ir_law_b1),
    (.ret (.cst (.bool true)))], [1, 2, 3, 4]⟩
def gam : List Fn := [ir_all_facts, ir_meets, ir_moved, ir_way, ir_judged_at, ir_ends_at, ir_comes, ir_barren, ir__law_pen, ir__law_take, ir__law_plain, ir__law_meets, ir__law_judged, ir__law_there, ir__law_test, ir__law_new_test, ir__law_class, ir__law_cup, ir__law_show, ir__law_state, ir__law_order, ir__law_all_facts, ir__law_first, ir__law_right, ir_law]
end K93
set_option maxRecDepth 100000
set_option maxHeartbeats 4000000
namespace K93
open PySem VI
theorem plain_T (l : List Int) (h : l.length ≤ 1000) : PlainN 1 (T l) := Or.inr ⟨l.map .int, Or.inr rfl, by simpa using h, fun y hy => by
  obtain ⟨i, _, rfl⟩ := List.mem_map.1 hy
  exact Or.inr (Or.inl ⟨i, rfl⟩)⟩
theorem plain_nats (l : List Nat) (h : l.length ≤ 1000) : PlainN 2 (.list (natsD l)) := Or.inr ⟨natsD l, Or.inl rfl, by simpa [natsD] using h, fun y hy => by
  obtain ⟨i, _, rfl⟩ := List.mem_map.1 hy
  exact Or.inl (Or.inr (Or.inl ⟨_, rfl⟩))⟩
theorem plain_natD (o : Option Nat) : PlainN 2 (natD o) := by
  cases o with
  | none => exact plain_leaf (Or.inl rfl) 2
  | some x => exact plain_leaf (Or.inr (Or.inl ⟨_, rfl⟩)) 2
theorem plain_optPD {o : Option (Nat × List Int)} (h : ∀ q, o = some q → q.2.length ≤ 1000) : PlainN 2 (optPD o) := by
  cases o with
  | none => exact plain_leaf (Or.inl rfl) 2
  | some q =>
    refine Or.inr ⟨[.int (q.1 : Nat), T q.2], Or.inr rfl, by simp, fun y hy => ?_⟩
    simp only [List.mem_cons, List.mem_nil_iff, or_false] at hy
    rcases hy with rfl | rfl
    · exact Or.inl (Or.inr (Or.inl ⟨_, rfl⟩))
    · exact plain_T _ (h q rfl)
def firstsL (s : Show) (P : List (Nat × List Int)) : List PyData := (List.range s.cls.length).map fun d => optPD (lookP s d P)
theorem firsts_at {s : Show} {P : List (Nat × List Int)} {x : Nat} (h : x < s.cls.length) : ixV (.list (firstsL s P)) (.int x) = some (optPD (lookP s x P)) := atI_of (by simp [firstsL, List.getElem?_range h])
theorem look_snoc (s : Show) (d : Nat) (P : List (Nat × List Int)) (q : Nat × List Int) : lookP s d (P ++ [q]) = (lookP s d P).or (if s.ends ⟨0, q.1, q.2⟩ = some d then some q else none) := by
  unfold lookP
  rw [List.find?_append, List.find?_cons, List.find?_nil]
  congr 1
  by_cases h : s.ends ⟨0, q.1, q.2⟩ = some d <;> simp [h]
theorem firsts_same {s : Show} {P : List (Nat × List Int)} {q : Nat × List Int} (h : ∀ d, s.ends ⟨0, q.1, q.2⟩ = some d → (lookP s d P).isSome) : firstsL s (P ++ [q]) = firstsL s P := by
  unfold firstsL
  congr 1
  funext d
  rw [look_snoc]
  by_cases hd : s.ends ⟨0, q.1, q.2⟩ = some d
  · obtain ⟨z, hz⟩ := Option.isSome_iff_exists.1 (h d hd)
    rw [hz]; rfl
  · rw [if_neg hd]
    cases lookP s d P <;> rfl
theorem firsts_set {s : Show} {P : List (Nat × List Int)} {q : Nat × List Int} {x : Nat} (hx : x < s.cls.length) (he : s.ends ⟨0, q.1, q.2⟩ = some x) (hn : lookP s x P = none) : (firstsL s P).set x (optPD (some q)) = firstsL s (P ++ [q]) := by
  apply List.ext_getElem
  · simp [firstsL]
  · intro i h1 h2
    simp [firstsL] at h2
    rw [List.getElem_set]
    by_cases hi : x = i
    · subst hi
      rw [if_pos rfl]
      simp [firstsL, look_snoc, hn, he]
    · rw [if_neg hi]
      have : ¬ s.ends ⟨0, q.1, q.2⟩ = some i := fun z => hi (by rw [he] at z; cases z; rfl)
      simp [firstsL, look_snoc, this]
section
variable {n : Nat} {C : CallF}
theorem fact_turn {s : Show} {c : Nat} {fs : List Int} {P : List (Nat × List Int)} {s4 s5 s6 : VI.Slot} (hs : ShowOK s) (hc : c < s.cls.length) (hfs : fs ∈ allFacts s.room) (hJ : JudgedAtC f__law_judged C) (hE : EndsAtC f_ends_at C) (hP : Plain3C f__law_plain 2 C) : ∃ s4',
    exs C ir__law_right_b1 [some (s.enc, .p), some (.list (firstsL s P), .o), some (.int c, .p), some (T fs, .p), s4, s5, s6] =
      some (.nx, [some (s.enc, .p), some (.list (firstsL s (P ++ [(c, fs)])), .o), some (.int c, .p), some (T fs, .p), s4', s5, s6]) := by
  have ok := ent_ok hs hc hfs (g := 7) (by decide) (by decide)
  have e1 := hJ s ⟨7, c, fs⟩ hs ok
  have e2 := hE s c fs hs hc hfs
  have hsame : s.ends ⟨7, c, fs⟩ = s.ends ⟨0, c, fs⟩ := rfl
  rw [hsame] at e1
  simp only [Ent.enc] at e1
  have e3 := hP _ false (plain_natD (s.ends ⟨0, c, fs⟩)) (fun h => by cases h)
  refine ⟨some (natD (s.ends ⟨0, c, fs⟩), .p), ?_⟩
  cases he : s.ends ⟨0, c, fs⟩ with
  | none =>
    rw [he] at e1 e2 e3
    simp only [natD] at e1 e2 e3
    rw [firsts_same (q := (c, fs)) (fun d hd => by rw [he] at hd; cases hd)]
    simp [ir__law_right_b1, runFn, exs, ex, ev, evs, evArgs, evO, evAnd, evOr, evIt, entry, tst, truE, rdOf, tkOf, fstOf, lateOf, quiet, quiets, quietO, pers, look, keepV, readV, takeV, copV, bopV, biV, bi2V, truV, fin, okFin, finals, callNow, argsNow, argNow, lent, back, hidOf, hid2Of, VI.bind, VI.binds, tgs, tgss, asgI, asgs, wipeE, unset, keepP, items, e1, e2, e3, natD]
  | some x =>
    rw [he] at e1 e2 e3
    simp only [natD] at e1 e2 e3
    have hx := ends_lt hs (ent_ok hs hc hfs (g := 0) (by decide) (by decide)) he
    have e4 := firsts_at (P := P) hx
    cases hl : lookP s x P with
    | some q =>
      rw [hl] at e4
      rw [firsts_same (q := (c, fs)) (fun d hd => by rw [he] at hd; cases hd; rw [hl]; rfl)]
      generalize firstsL s P = FL at *
      simp [ir__law_right_b1, runFn, exs, ex, ev, evs, evArgs, evO, evAnd, evOr, evIt, entry, tst, truE, rdOf, tkOf, fstOf, lateOf, quiet, quiets, quietO, pers, look, keepV, readV, takeV, copV, bopV, biV, bi2V, truV, fin, okFin, finals, callNow, argsNow, argNow, lent, back, hidOf, hid2Of, VI.bind, VI.binds, tgs, tgss, asgI, asgs, wipeE, unset, keepP, items, e1, e2, e3, natD, e4, optPD]
    | none =>
      rw [hl] at e4
      have e5 := setL (xs := firstsL s P) (m := x) (v := optPD (some (c, fs))) (by simp [firstsL]; exact hx)
      rw [firsts_set hx he hl] at e5
      generalize firstsL s (P ++ [(c, fs)]) = FN at *
      generalize firstsL s P = FL at *
      simp only [optPD] at e5
      simp [ir__law_right_b1, runFn, exs, ex, ev, evs, evArgs, evO, evAnd, evOr, evIt, entry, tst, truE, rdOf, tkOf, fstOf, lateOf, quiet, quiets, quietO, pers, look, keepV, readV, takeV, copV, bopV, biV, bi2V, truV, fin, okFin, finals, callNow, argsNow, argNow, lent, back, hidOf, hid2Of, VI.bind, VI.binds, tgs, tgss, asgI, asgs, wipeE, unset, keepP, items, e1, e2, e3, natD, e4, optPD, e5]
theorem class_turn {s : Show} {c : Nat} {P : List (Nat × List Int)} {s3 s4 s5 s6 : VI.Slot} (hs : ShowOK s) (hc : c < s.cls.length) (hA : AllFactsC f__law_all_facts C) (hJ : JudgedAtC f__law_judged C) (hE : EndsAtC f_ends_at C) (hP : Plain3C f__law_plain 2 C) : ∃ s3' s4',
    exs C ir__law_right_b2 [some (s.enc, .p), some (.list (firstsL s P), .o), some (.int c, .p), s3, s4, s5, s6] =
      some (.nx, [some (s.enc, .p), some (.list (firstsL s (P ++ (allFacts s.room).map fun fs => (c, fs))), .o), some (.int c, .p), s3', s4', s5, s6]) := by
  have hA := hA s.room hs.r
  have e0 : ixV s.enc (.int 0) = some (T s.room) := at0
  obtain ⟨env', h1, s3', s4', rfl⟩ := forL_pre (t := .nm 3) (b := exs C ir__law_right_b1) T (fun pre env => ∃ s3 s4, env = [some (s.enc, .p), some (.list (firstsL s (P ++ pre.map fun fs => (c, fs))), .o), some (.int c, .p), s3, s4, s5, s6]) (all := allFacts s.room) (ys := allFacts s.room) (pre := [])
    (env := [some (s.enc, .p), some (.list (firstsL s P), .o), some (.int c, .p), s3, s4, s5, s6]) rfl ⟨s3, s4, by simp⟩ (by
      rintro pre y post env ha ⟨s3, s4, rfl⟩
      have hy : y ∈ allFacts s.room := by rw [ha]; simp
      obtain ⟨s4', g1⟩ := fact_turn (C := C) (s := s) (c := c) (fs := y) (P := P ++ pre.map fun fs => (c, fs)) (s4 := s4) (s5 := s5) (s6 := s6) hs hc hy hJ hE hP
      rw [show P ++ (pre.map fun fs => (c, fs)) ++ [(c, y)] = P ++ (pre ++ [y]).map fun fs => (c, fs) by simp] at g1
      exact ⟨_, _, rfl, Or.inl g1, _, s4', rfl⟩)
  exact ⟨s3', s4', by simp [ir__law_right_b2, runFn, exs, ex, ev, evs, evArgs, evO, evAnd, evOr, evIt, entry, tst, truE, rdOf, tkOf, fstOf, lateOf, quiet, quiets, quietO, pers, look, keepV, readV, takeV, copV, bopV, biV, bi2V, truV, fin, okFin, finals, callNow, argsNow, argNow, lent, back, hidOf, hid2Of, VI.bind, VI.binds, tgs, tgss, asgI, asgs, wipeE, unset, keepP, items, e0, hA, h1]⟩
def RightC (f : Nat) (C : CallF) : Prop := ∀ s : Show, ShowOK s → C f [(s.enc, false)] = some (.bool true, false, [(s.enc, false)])
theorem barren_turn {s : Show} {s2 s3 s4 s5 s6 : VI.Slot} (hs : ShowOK s) (h2 : s2 = none ∨ ∃ d, s2 = some (d, .p)) (hP : Plain3C f__law_plain 2 C) (hB : BarrenC f_barren C) : ∃ s6',
    exs C ir__law_right_b3 [some (s.enc, .p), some (.list (firstsL s (pairsL s (List.range s.cls.length))), .o), s2, s3, s4, s5, s6] =
      some (.nx, [some (s.enc, .p), some (.list (firstsL s (pairsL s (List.range s.cls.length))), .o), s2, s3, s4, s5, s6']) := by
  have h6 := hs.c6
  have e1 : ixV s.enc (.int 1) = some (.tuple (s.cls.map Cls.enc)) := at1
  have b1 := hB s hs
  have hbl : (barL s).length ≤ 6 := by
    unfold barL
    have := List.length_filter_le (fun d => (lookP s d (pairsL s (List.range s.cls.length))).isNone) (List.range s.cls.length)
    simp at this
    omega
  have p1 := hP _ true (plain_nats (barL s) (by omega)) (fun _ => rfl)
  have c2 : ∀ X : PyData, compL (.nm 2) [2] (evCs C ir__law_right_c1) (ev C ir__law_right_e2) ((List.range s.cls.length).map fun (i : Nat) => PyData.int i) [] [some (s.enc, .p), some (.list (firstsL s (pairsL s (List.range s.cls.length))), .o), none, s3, s4, s5, some (X, .o)] = some (natsD (barL s), [some (s.enc, .p), some (.list (firstsL s (pairsL s (List.range s.cls.length))), .o), none, s3, s4, s5, some (X, .o)]) := by
    intro X
    have := compL_pure (t := .nm 2) (own := [2]) (cs := evCs C ir__law_right_c1) (e := ev C ir__law_right_e2) (fun (q : Nat) => PyData.int q) (fun d => (lookP s d (pairsL s (List.range s.cls.length))).isNone) (fun (q : Nat) => PyData.int q) (ys := List.range s.cls.length) (acc := [])
      (env := [some (s.enc, .p), some (.list (firstsL s (pairsL s (List.range s.cls.length))), .o), none, s3, s4, s5, some (X, .o)]) (by
        intro q hq
        have m := firsts_at (P := pairsL s (List.range s.cls.length)) (List.mem_range.1 hq)
        refine ⟨_, [some (s.enc, .p), some (.list (firstsL s (pairsL s (List.range s.cls.length))), .o), some (.int q, .p), s3, s4, s5, some (X, .o)], rfl, ?_, fun _ => rfl, fun _ => ⟨false, [some (s.enc, .p), some (.list (firstsL s (pairsL s (List.range s.cls.length))), .o), some (.int q, .p), s3, s4, s5, some (X, .o)], ?_, rfl⟩⟩
        · cases h : lookP s q (pairsL s (List.range s.cls.length)) <;> rw [h] at m <;> simp [ir__law_right_c1, evCs, runFn, exs, ex, ev, evs, evArgs, evO, evAnd, evOr, evIt, entry, tst, truE, rdOf, tkOf, fstOf, lateOf, quiet, quiets, quietO, pers, look, keepV, readV, takeV, copV, bopV, biV, bi2V, truV, fin, okFin, finals, callNow, argsNow, argNow, lent, back, hidOf, hid2Of, VI.bind, VI.binds, tgs, tgss, asgI, asgs, wipeE, unset, keepP, items, m, optPD]
        · simp [ir__law_right_e2, runFn, exs, ex, ev, evs, evArgs, evO, evAnd, evOr, evIt, entry, tst, truE, rdOf, tkOf, fstOf, lateOf, quiet, quiets, quietO, pers, look, keepV, readV, takeV, copV, bopV, biV, bi2V, truV, fin, okFin, finals, callNow, argsNow, argNow, lent, back, hidOf, hid2Of, VI.bind, VI.binds, tgs, tgss, asgI, asgs, wipeE, unset, keepP, items]) (sizeLine_big (by simp; omega))
    simp only [List.nil_append] at this
    exact this
  have z1 : int62 (s.cls.length : Int) = true := by simp only [int62, decide_eq_true_eq]; omega
  have hsz : (natsD (barL s)).length < sizeLine := sizeLine_big (n := (natsD (barL s)).length + 1) (by simp [natsD]; omega)
  generalize natsD (barL s) = BL at *
  generalize firstsL s (pairsL s (List.range s.cls.length)) = FL at *
  refine ⟨some (.list (BL ++ [PyData.int 0]).reverse, .o), ?_⟩
  rcases h2 with rfl | ⟨d, rfl⟩
  · simp [ir__law_right_b3, runFn, exs, ex, ev, evs, evArgs, evO, evAnd, evOr, evIt, entry, tst, truE, rdOf, tkOf, fstOf, lateOf, quiet, quiets, quietO, pers, look, keepV, readV, takeV, copV, bopV, biV, bi2V, truV, fin, okFin, finals, callNow, argsNow, argNow, lent, back, hidOf, hid2Of, VI.bind, VI.binds, tgs, tgss, asgI, asgs, wipeE, unset, keepP, items, b1, e1, z1, rngD0, c2, p1, muV, appendV, reverseV, hsz]
  · simp [ir__law_right_b3, runFn, exs, ex, ev, evs, evArgs, evO, evAnd, evOr, evIt, entry, tst, truE, rdOf, tkOf, fstOf, lateOf, quiet, quiets, quietO, pers, look, keepV, readV, takeV, copV, bopV, biV, bi2V, truV, fin, okFin, finals, callNow, argsNow, argNow, lent, back, hidOf, hid2Of, VI.bind, VI.binds, tgs, tgss, asgI, asgs, wipeE, unset, keepP, items, b1, e1, z1, rngD0, c2, p1, muV, appendV, reverseV, hsz]
theorem right_lev (hA : Lev gam n (AllFactsC f__law_all_facts)) (hJ : Lev gam n (JudgedAtC f__law_judged)) (hE : Lev gam n (EndsAtC f_ends_at)) (hP : Lev gam n (Plain3C f__law_plain 2)) (hC : Lev gam n (ComesC f_comes)) (hB : Lev gam n (BarrenC f_barren)) : Lev gam (n + 1) (RightC f__law_right) := by
  refine lev_of fun k hk s hs => ?_
  rw [call_at (fn := ir__law_right) rfl]
  have hA := hA k hk
  have hJ := hJ k hk
  have hE := hE k hk
  have hP := hP k hk
  have hC := hC k hk
  have hB := hB k hk
  have h6 := hs.c6
  have hr3 := hs.r.2.1
  have e1 : ixV s.enc (.int 1) = some (.tuple (s.cls.map Cls.enc)) := at1
  have hf0 : firstsL s [] = List.replicate s.cls.length .none := by
    unfold firstsL
    apply List.ext_getElem
    · simp
    · intro i h1 h2
      simp [lookP, optPD]
  obtain ⟨env', h1, s2, s3, s4, h2, hs2⟩ := forL_pre (t := .nm 2) (b := exs (call gam k) ir__law_right_b2) (fun (i : Nat) => PyData.int i) (fun pre env => ∃ s2 s3 s4, env = [some (s.enc, .p), some (.list (firstsL s (pairsL s pre)), .o), s2, s3, s4, none, none] ∧ (s2 = none ∨ ∃ d, s2 = some (d, .p))) (all := List.range s.cls.length) (ys := List.range s.cls.length) (pre := [])
    (env := [some (s.enc, .p), some (.list (firstsL s []), .o), none, none, none, none, none]) rfl ⟨_, _, _, rfl, .inl rfl⟩ (by
      rintro pre y post env ha ⟨s2, s3, s4, rfl, _⟩
      obtain ⟨r1, r2, r3⟩ := range_pre ha
      obtain ⟨s3', s4', g1⟩ := class_turn (C := call gam k) (s := s) (c := y) (P := pairsL s pre) (s3 := s3) (s4 := s4) (s5 := none) (s6 := none) hs r2 hA hJ hE hP
      rw [show pairsL s pre ++ (allFacts s.room).map (fun fs => (y, fs)) = pairsL s (pre ++ [y]) by unfold pairsL; rw [List.flatMap_append]; simp] at g1
      exact ⟨_, _, rfl, Or.inl g1, _, s3', s4', rfl, .inr ⟨_, rfl⟩⟩)
  subst h2
  have hall : ∀ s5 s6 : VI.Slot, compL (.nm 2) [2] (evCs (call gam k) []) (ev (call gam k) ir__law_right_e1) ((List.range s.cls.length).map fun (i : Nat) => PyData.int i) [] [some (s.enc, .p), some (.list (firstsL s (pairsL s (List.range s.cls.length))), .o), none, s3, s4, s5, s6] = some ((List.range s.cls.length).map fun _ => .bool true, [some (s.enc, .p), some (.list (firstsL s (pairsL s (List.range s.cls.length))), .o), none, s3, s4, s5, s6]) := by
    intro s5 s6
    have := compL_map (C := call gam k) (t := .nm 2) (own := [2]) (e := ev (call gam k) ir__law_right_e1) (fun (q : Nat) => PyData.int q) (fun _ => .bool true) (ys := List.range s.cls.length) (acc := [])
      (env := [some (s.enc, .p), some (.list (firstsL s (pairsL s (List.range s.cls.length))), .o), none, s3, s4, s5, s6]) (fun q hq => by
        have m := firsts_at (P := pairsL s (List.range s.cls.length)) (List.mem_range.1 hq)
        have c := hC s q hs
        have hpl : PlainN 2 (optPD (lookP s q (pairsL s (List.range s.cls.length)))) := plain_optPD fun z hz => by
          have hz := List.mem_of_find?_eq_some hz
          unfold pairsL at hz
          obtain ⟨a, _, hz⟩ := List.mem_flatMap.1 hz
          obtain ⟨b, hb, rfl⟩ := List.mem_map.1 hz
          have := allFacts_mem b hb
          dsimp only
          omega
        have p := hP _ false hpl (fun h => by cases h)
        refine ⟨_, false, [some (s.enc, .p), some (.list (firstsL s (pairsL s (List.range s.cls.length))), .o), some (.int q, .p), s3, s4, s5, s6], rfl, ?_, rfl⟩
        generalize optPD (lookP s q (pairsL s (List.range s.cls.length))) = X at *
        simp [ir__law_right_e1, runFn, exs, ex, ev, evs, evArgs, evO, evAnd, evOr, evIt, entry, tst, truE, rdOf, tkOf, fstOf, lateOf, quiet, quiets, quietO, pers, look, keepV, readV, takeV, copV, bopV, biV, bi2V, truV, fin, okFin, finals, callNow, argsNow, argNow, lent, back, hidOf, hid2Of, VI.bind, VI.binds, tgs, tgss, asgI, asgs, wipeE, unset, keepP, items, c, m, p]) (sizeLine_big (by simp; omega))
    simpa using this
  obtain ⟨env3, g1, s5, s6, rfl⟩ := forL_pre (t := .nm 5) (b := exs (call gam k) ir__law_right_b3) (fun (i : Nat) => PyData.int i) (fun pre env => ∃ s5 s6, env = [some (s.enc, .p), some (.list (firstsL s (pairsL s (List.range s.cls.length))), .o), s2, s3, s4, s5, s6]) (all := List.range 2) (ys := List.range 2) (pre := [])
    (env := [some (s.enc, .p), some (.list (firstsL s (pairsL s (List.range s.cls.length))), .o), s2, s3, s4, none, none]) rfl ⟨none, none, rfl⟩ (by
      rintro pre y post env ha ⟨s5, s6, rfl⟩
      obtain ⟨s6', g1⟩ := barren_turn (C := call gam k) (s := s) (s2 := s2) (s3 := s3) (s4 := s4) (s5 := some (.int y, .p)) (s6 := s6) hs hs2 hP hB
      exact ⟨_, _, rfl, Or.inl g1, _, s6', rfl⟩)
  have hbt : boolsOf ((List.range s.cls.length).map fun _ => PyData.bool true) = some ((List.range s.cls.length).map fun _ => true) := by
    generalize List.range s.cls.length = l
    induction l with
    | nil => rfl
    | cons x l ih => simp only [List.map_cons, boolsOf, ih]
  have z1 : int62 (s.cls.length : Int) = true := by simp only [int62, decide_eq_true_eq]; omega
  have z2 : int62 2 = true := by rfl
  have z3 : (Int.toNat 2) = 2 := rfl
  have hat : ((List.range s.cls.length).all fun _ => true) = true := by simp
  have z4 : s.cls.length < 9223372036854775808 ∧ s.cls.length ≤ sizeLine := ⟨by omega, sizeLine_big (by omega)⟩
  rw [hf0] at h1
  generalize firstsL s (pairsL s (List.range s.cls.length)) = FL at *
  rcases hs2 with rfl | ⟨d, rfl⟩
  · simp [ir__law_right, runFn, exs, ex, ev, evs, evArgs, evO, evAnd, evOr, evIt, entry, tst, truE, rdOf, tkOf, fstOf, lateOf, quiet, quiets, quietO, pers, look, keepV, readV, takeV, copV, bopV, biV, bi2V, truV, fin, okFin, finals, callNow, argsNow, argNow, lent, back, hidOf, hid2Of, VI.bind, VI.binds, tgs, tgss, asgI, asgs, wipeE, unset, keepP, items, e1, z1, z2, z3, z4, rngD0, h1, hall, hbt, hat, g1]
  · simp [ir__law_right, runFn, exs, ex, ev, evs, evArgs, evO, evAnd, evOr, evIt, entry, tst, truE, rdOf, tkOf, fstOf, lateOf, quiet, quiets, quietO, pers, look, keepV, readV, takeV, copV, bopV, biV, bi2V, truV, fin, okFin, finals, callNow, argsNow, argNow, lent, back, hidOf, hid2Of, VI.bind, VI.binds, tgs, tgss, asgI, asgs, wipeE, unset, keepP, items, e1, z1, z2, z3, z4, rngD0, h1, hall, hbt, hat, g1]
theorem law (ns : List Int) (hn : ns.length ≤ 63) : ∃ own fs, call gam 230 f_law [(.list (ns.map .int), false)] = some (.bool true, own, fs) := by
  have hPn : Lev gam 1 (Pen3C f__law_pen) := pen3_lev rfl
  have hD : Lev gam 1 (Take3C f__law_take) := take3_lev rfl
  have hT2 : Lev gam 3 (Test3C f__law_test 2) := test3_lev (f := f__law_test) rfl hD 2
  have hT1 : Lev gam 2 (Test3C f__law_test 1) := test3_lev (f := f__law_test) rfl hD 1
  have hN : Lev gam 4 (NewTest3C f__law_new_test) := newTest3_lev (f := f__law_new_test) rfl (hD.mono (by decide)) hT2 (hT1.mono (by decide))
  have hCl : Lev gam 5 (Class3C f__law_class) := class3_lev (f := f__law_class) rfl (hD.mono (by decide)) hN
  have hU : Lev gam 2 (Cup3C f__law_cup) := cup3_lev (f := f__law_cup) rfl hD
  have hSh : Lev gam 6 (Show3C f__law_show) := show3_lev (f := f__law_show) rfl (hD.mono (by decide)) hCl (hU.mono (by decide))
  have hA : Lev gam 1 (AllFactsC f_all_facts) := allFacts_lev rfl
  have hAL : Lev gam 1 (AllFactsC f__law_all_facts) := all3_lev rfl
  have hM : Lev gam 5 (MeetsC f_meets 5) := meets_lev rfl 5
  have hML : Lev gam 5 (MeetsC f__law_meets 5) := meets3_lev rfl 5
  have hMv : Lev gam 6 (MovedC f_moved) := moved_lev (f := f_moved) rfl hM
  have hW : Lev gam 7 (WayC f_way) := way_lev (f := f_way) rfl hMv
  have hJ : Lev gam 8 (JudgedAtC f_judged_at) := judgedAt_lev (f := f_judged_at) rfl hW
  have hE : Lev gam 9 (EndsAtC f_ends_at) := endsAt_lev (f := f_ends_at) rfl hJ
  have hC : Lev gam 10 (ComesC f_comes) := comes_lev (f := f_comes) rfl (hA.mono (by decide)) hE
  have hB : Lev gam 11 (BarrenC f_barren) := barren_lev (f := f_barren) rfl hC
  have hJL : Lev gam 6 (JudgedAtC f__law_judged) := judged3_lev (f := f__law_judged) rfl hML
  have hP : Lev gam 3 (Plain3C f__law_plain 2) := plain3_lev (f := f__law_plain) rfl 2
  have hR : Lev gam 12 (RightC f__law_right) := right_lev (hAL.mono (by decide)) (hJL.mono (by decide)) (hE.mono (by decide)) (hP.mono (by decide)) (hC.mono (by decide)) hB
  have hR := hR 229 (by decide)
  have hSh := hSh 229 (by decide)
  obtain ⟨d, p1, p2⟩ := hPn 229 (by decide) ns hn
  obtain ⟨sa, d1, a1, a2, a3, a4, a5⟩ := hSh d 0 6 0 p2 (by decide) (by decide) (by decide) (by decide) (by decide)
  obtain ⟨sb, d2, b1, b2, b3, b4, b5⟩ := hSh d1 _ 3 0 a5 (by decide) (by decide) (by decide) (by decide) (by decide)
  obtain ⟨env', c1, s3, s4, rfl⟩ := forL_pre (t := .nm 3) (b := exs (call gam 229) ir_law_b1) Show.enc (fun pre env => ∃ s3 s4, env = [some (.list (ns.map .int), .p), some (d2, .o), some (.list [sa.enc, sb.enc], .o), s3, s4]) (all := [sa, sb, sa]) (ys := [sa, sb, sa]) (pre := [])
    (env := [some (.list (ns.map .int), .p), some (d2, .o), some (.list [sa.enc, sb.enc], .o), none, none]) rfl ⟨_, _, rfl⟩ (by
      rintro pre y post env ha ⟨s3, s4, rfl⟩
      have hy : ShowOK y := by
        have : y ∈ [sa, sb, sa] := by rw [ha]; simp
        simp only [List.mem_cons, List.mem_nil_iff, or_false] at this
        rcases this with h | h | h <;> rw [h] <;> assumption
      have r := hR y hy
      obtain ⟨r1, r2, r3, r4⟩ := (good_show hy).shown (by decide) (by decide)
      refine ⟨_, [some (.list (ns.map .int), .p), some (d2, .o), some (.list [sa.enc, sb.enc], .o), some (y.enc, .p), some (.str y.enc.shown, .p)], rfl, Or.inl ?_, _, _, rfl⟩
      generalize y.enc = Y at *
      simp [ir_law_b1, runFn, exs, ex, ev, evs, evArgs, evO, evAnd, evOr, evIt, entry, tst, truE, rdOf, tkOf, fstOf, lateOf, quiet, quiets, quietO, pers, look, keepV, readV, takeV, copV, bopV, biV, bi2V, truV, fin, okFin, finals, callNow, argsNow, argNow, lent, back, hidOf, hid2Of, VI.bind, VI.binds, tgs, tgss, asgI, asgs, wipeE, unset, keepP, items, r, r1, r2, r3, r4, pyEqI, pyEqS, pyEqB, pyEqSI, pyEqIS, pyEqNI, pyEqIN, pyEqNN, pyEqNil])
  refine ⟨false, [(.list (ns.map .int), false)], ?_⟩
  rw [call_at (fn := ir_law) rfl]
  have hcut : cutD [sa.enc, sb.enc] none (some 1) = [sa.enc] := cut_to (xs := [sa.enc, sb.enc]) 1
  simp at c1
  generalize sa.enc = SA at *
  generalize sb.enc = SB at *
  simp [ir_law, runFn, exs, ex, ev, evs, evArgs, evO, evAnd, evOr, evIt, entry, tst, truE, rdOf, tkOf, fstOf, lateOf, quiet, quiets, quietO, pers, look, keepV, readV, takeV, copV, bopV, biV, bi2V, truV, fin, okFin, finals, callNow, argsNow, argNow, lent, back, hidOf, hid2Of, VI.bind, VI.binds, tgs, tgss, asgI, asgs, wipeE, unset, keepP, items, p1, a1, b1, slV, hcut, c1]
end
end K93
set_option maxRecDepth 100000
set_option maxHeartbeats 4000000
namespace K93
open PySem VI
def topS (i : Nat) : Stmt := PySem.Challenge.pw_cupclasses_k93_ends_and_barren_classes.main.body.getD i (.Pass ⟨0, 0, 0, 0⟩)
def di_all_facts : DefI := ⟨"all_facts", ["room", "found", "many", "longer", "facts", "worth"], topS 1, ir_all_facts⟩
def di_meets : DefI := ⟨"meets", ["test", "facts", "word"], topS 3, ir_meets⟩
def di_moved : DefI := ⟨"moved", ["show", "c", "facts", "test", "to"], topS 5, ir_moved⟩
def di_way : DefI := ⟨"way", ["show", "entry", "found", "to"], topS 6, ir_way⟩
def di_judged_at : DefI := ⟨"judged_at", ["show", "entry", "word", "found"], topS 7, ir_judged_at⟩
def di_ends_at : DefI := ⟨"ends_at", ["show", "c", "facts"], topS 9, ir_ends_at⟩
def di_comes : DefI := ⟨"comes", ["show", "c", "one", "facts"], topS 10, ir_comes⟩
def di_barren : DefI := ⟨"barren", ["show", "c"], topS 11, ir_barren⟩
def di__law_pen : DefI := ⟨"_law_pen", ["_law_script"], topS 13, ir__law_pen⟩
def di__law_take : DefI := ⟨"_law_take", ["_law_pen_here", "_law_many", "_law_found", "_law_script", "_law_at", "_law_cell", "_law_number"], topS 14, ir__law_take⟩
def di__law_plain : DefI := ⟨"_law_plain", ["_law_found", "_law_due", "_law_one", "_law_other"], topS 15, ir__law_plain⟩
def di__law_meets : DefI := ⟨"_law_meets", ["_law_test_here", "_law_facts"], topS 16, ir__law_meets⟩
def di__law_judged : DefI := ⟨"_law_judged", ["_law_show_here", "_law_entry", "_law_c", "_law_turn", "_law_letting", "_law_test_here", "_law_to"], topS 17, ir__law_judged⟩
def di__law_there : DefI := ⟨"_law_there", ["_law_show_here", "_law_state_here", "_law_c", "_law_k", "_law_entry"], topS 18, ir__law_there⟩
def di__law_test : DefI := ⟨"_law_test", ["_law_pen_here", "_law_room", "_law_deep", "_law_way_of", "_law_trait", "_law_worth", "_law_one"], topS 19, ir__law_test⟩
def di__law_new_test : DefI := ⟨"_law_new_test", ["_law_pen_here", "_law_room", "_law_movings", "_law_sort", "_law_test_here", "_law_part"], topS 20, ir__law_new_test⟩
def di__law_class : DefI := ⟨"_law_class", ["_law_pen_here", "_law_room", "_law_many", "_law_c", "_law_movings", "_law_k", "_law_splits", "_law_most", "_law_same", "_law_points"], topS 21, ir__law_class⟩
def di__law_cup : DefI := ⟨"_law_cup", ["_law_pen_here", "_law_many", "_law_cup_here", "_law_of", "_law_c", "_law_left", "_law_steps", "_law_k", "_law_without", "_law_other"], topS 22, ir__law_cup⟩
def di__law_show : DefI := ⟨"_law_show", ["_law_pen_here", "_law_classes", "_law_cups", "_law_room", "_law_k", "_law_size", "_law_worths", "_law_many", "_law_rows", "_law_c", "_law_cup_here"], topS 23, ir__law_show⟩
def di__law_state : DefI := ⟨"_law_state", ["_law_pen_here", "_law_show_here", "_law_entries", "_law_full", "_law_growers", "_law_k", "_law_facts", "_law_many", "_law_entry", "_law_c", "_law_share", "_law_struck", "_law_orders"], topS 24, ir__law_state⟩
def di__law_order : DefI := ⟨"_law_order", ["_law_pen_here", "_law_numbers", "_law_left", "_law_found"], topS 25, ir__law_order⟩
def di__law_all_facts : DefI := ⟨"_law_all_facts", ["_law_room", "_law_found", "_law_many", "_law_longer", "_law_facts", "_law_worth"], topS 26, ir__law_all_facts⟩
def di__law_first : DefI := ⟨"_law_first", ["_law_show_here", "_law_c", "_law_facts", "_law_letting", "_law_number", "_law_moving"], topS 27, ir__law_first⟩
def di__law_right : DefI := ⟨"_law_right", ["_law_show_here", "_law_firsts", "_law_c", "_law_facts", "_law_due", "_law_turn", "_law_found"], topS 28, ir__law_right⟩
def di_law : DefI := ⟨"law", ["_law_script", "_law_pen_here", "_law_some", "_law_show_here", "_law_kept"], topS 29, ir_law⟩
def blt : List Str := ["abs", "all", "bool", "enumerate", "int", "isinstance", "len", "list", "min", "range", "repr", "str", "tuple", "zip"]
def ds : List DefI := [di_all_facts, di_meets, di_moved, di_way, di_judged_at, di_ends_at, di_comes, di_barren, di__law_pen, di__law_take, di__law_plain, di__law_meets, di__law_judged, di__law_there, di__law_test, di__law_new_test, di__law_class, di__law_cup, di__law_show, di__law_state, di__law_order, di__law_all_facts, di__law_first, di__law_right, di_law]
theorem b_all_facts : BindA di_all_facts := fun _ _ _ _ _ _ us hl => match us, hl with
  | [_], _ => rfl
theorem b_meets : BindA di_meets := fun _ _ _ _ _ _ us hl => match us, hl with
  | [_, _], _ => rfl
theorem b_moved : BindA di_moved := fun _ _ _ _ _ _ us hl => match us, hl with
  | [_, _, _], _ => rfl
theorem b_way : BindA di_way := fun _ _ _ _ _ _ us hl => match us, hl with
  | [_, _], _ => rfl
theorem b_judged_at : BindA di_judged_at := fun _ _ _ _ _ _ us hl => match us, hl with
  | [_, _], _ => rfl
theorem b_ends_at : BindA di_ends_at := fun _ _ _ _ _ _ us hl => match us, hl with
  | [_, _, _], _ => rfl
theorem b_comes : BindA di_comes := fun _ _ _ _ _ _ us hl => match us, hl with
  | [_, _], _ => rfl
theorem b_barren : BindA di_barren := fun _ _ _ _ _ _ us hl => match us, hl with
  | [_], _ => rfl
theorem b__law_pen : BindA di__law_pen := fun _ _ _ _ _ _ us hl => match us, hl with
  | [_], _ => rfl
theorem b__law_take : BindA di__law_take := fun _ _ _ _ _ _ us hl => match us, hl with
  | [_, _], _ => rfl
theorem b__law_plain : BindA di__law_plain := fun _ _ _ _ _ _ us hl => match us, hl with
  | [_, _], _ => rfl
theorem b__law_meets : BindA di__law_meets := fun _ _ _ _ _ _ us hl => match us, hl with
  | [_, _], _ => rfl
theorem b__law_judged : BindA di__law_judged := fun _ _ _ _ _ _ us hl => match us, hl with
  | [_, _], _ => rfl
theorem b__law_there : BindA di__law_there := fun _ _ _ _ _ _ us hl => match us, hl with
  | [_, _, _], _ => rfl
theorem b__law_test : BindA di__law_test := fun _ _ _ _ _ _ us hl => match us, hl with
  | [_, _, _], _ => rfl
theorem b__law_new_test : BindA di__law_new_test := fun _ _ _ _ _ _ us hl => match us, hl with
  | [_, _, _], _ => rfl
theorem b__law_class : BindA di__law_class := fun _ _ _ _ _ _ us hl => match us, hl with
  | [_, _, _, _], _ => rfl
theorem b__law_cup : BindA di__law_cup := fun _ _ _ _ _ _ us hl => match us, hl with
  | [_, _, _], _ => rfl
theorem b__law_show : BindA di__law_show := fun _ _ _ _ _ _ us hl => match us, hl with
  | [_, _, _], _ => rfl
theorem b__law_state : BindA di__law_state := fun _ _ _ _ _ _ us hl => match us, hl with
  | [_, _], _ => rfl
theorem b__law_order : BindA di__law_order := fun _ _ _ _ _ _ us hl => match us, hl with
  | [_, _], _ => rfl
theorem b__law_all_facts : BindA di__law_all_facts := fun _ _ _ _ _ _ us hl => match us, hl with
  | [_], _ => rfl
theorem b__law_first : BindA di__law_first := fun _ _ _ _ _ _ us hl => match us, hl with
  | [_, _, _], _ => rfl
theorem b__law_right : BindA di__law_right := fun _ _ _ _ _ _ us hl => match us, hl with
  | [_], _ => rfl
theorem b_law : BindA di_law := fun _ _ _ _ _ _ us hl => match us, hl with
  | [_], _ => rfl
theorem hB : ∀ d ∈ ds, BindA d := by
  intro d hd
  simp only [ds, List.mem_cons, List.mem_nil_iff, or_false] at hd
  rcases hd with rfl | rfl | rfl | rfl | rfl | rfl | rfl | rfl | rfl | rfl | rfl | rfl | rfl | rfl | rfl | rfl | rfl | rfl | rfl | rfl | rfl | rfl | rfl | rfl | rfl
  · exact b_all_facts
  · exact b_meets
  · exact b_moved
  · exact b_way
  · exact b_judged_at
  · exact b_ends_at
  · exact b_comes
  · exact b_barren
  · exact b__law_pen
  · exact b__law_take
  · exact b__law_plain
  · exact b__law_meets
  · exact b__law_judged
  · exact b__law_there
  · exact b__law_test
  · exact b__law_new_test
  · exact b__law_class
  · exact b__law_cup
  · exact b__law_show
  · exact b__law_state
  · exact b__law_order
  · exact b__law_all_facts
  · exact b__law_first
  · exact b__law_right
  · exact b_law
def cs : List (Str × PyData) := []
theorem chk : ds.all (chF (tabOf blt cs ds)) = true := by kernel_rfl
abbrev Rw : PySem.W.OpenRow := PySem.W.OpenLaw.row PySem.Challenge.rw_cupclasses_k93_ends_and_barren_classes
abbrev hk : PySem.W.Hook := He.hookD 4 (faOf blt cs ds) (ds.map dD)
def ob (s : PySem.W.SharedT) : He.AlD := He.obsDG 4 (faOf blt cs ds) (ds.map dD) (HandSHeadRun.getT s)
theorem ob_eq (s : PySem.W.SharedT) : ob s = hk.obs s.abs := He.obsDG_eq (HandSHeadRun.getT_eq s)
def loose : List Str := ["all_facts", "meets", "moved", "way", "judged_at", "ends_at", "comes", "barren", "_law_pen", "_law_take", "_law_plain", "_law_meets", "_law_judged", "_law_there", "_law_test", "_law_new_test", "_law_class", "_law_cup", "_law_show", "_law_state", "_law_order", "_law_all_facts", "_law_first", "_law_right"]
theorem run (w : World) : HandSHeadRun.RunEq Rw (PySem.W.view Rw.prog [29]) hk ob 2000 loose w := by
  intro os
  kernel_rfl
end K93
open PySem PySem.W PySem.Calls PyProof.Rows
theorem K93.holds_of (law : ∀ ns : List Int, ns.length ≤ 63 → ∃ own fs, VI.call K93.gam 230 24 [(.list (ns.map .int), false)] = some (.bool true, own, fs)) : PySem.Challenge.rw_cupclasses_k93_ends_and_barren_classes.Holds := by
  w_on; o_law
  refine HandSHeadRun.head_any (r := OpenLaw.row PySem.Challenge.rw_cupclasses_k93_ends_and_barren_classes) (q := view (OpenLaw.row PySem.Challenge.rw_cupclasses_k93_ends_and_barren_classes).prog [29]) (H := K93.hk) (ob := K93.ob) (M := 2000) (loose := K93.loose) (d := HandSHeadRun.topDef (OpenLaw.row PySem.Challenge.rw_cupclasses_k93_ends_and_barren_classes).prog 29) (kwd := []) K93.ob_eq
    (by kernel_rfl) (fun s => by kernel_rfl) K93.run (by kernel_rfl) (by kernel_rfl) (by kernel_rfl) (by rfl) (by first | assumption | decide +kernel) (by decide +kernel) ⟨rfl, rfl, rfl, rfl, rfl, by decide +kernel⟩ ?hw ?hc
  case hw => w_witness2
  case hc =>
    refine VI.law_by (l := PySem.Challenge.rw_cupclasses_k93_ends_and_barren_classes) (n := 63) (k := 230) (i := 24) (x := "_law_script") (blt := K93.blt) (cs := K93.cs) (ds := K93.ds) (dl := K93.di_law) rfl (by decide) (by kernel_rfl) ⟨rfl, by decide, by decide⟩ rfl K93.chk rfl rfl rfl ?F law
    intro w mg fa h Y G hmg
    have e : (HandSHeadRun.topDef (OpenLaw.row PySem.Challenge.rw_cupclasses_k93_ends_and_barren_classes).prog 29).name = ("law" : PySem.Str) := by kernel_rfl
    rw [e] at hmg
    exact VI.head_law (YP := True) (i := 24) (dl := K93.di_law) rfl rfl (by decide) K93.hB G hmg Y
set_option maxRecDepth 100000 in
set_option maxHeartbeats 8000000 in
theorem PySem.Challenge.cw_cupclasses_k93_ends_and_barren_classes_holds : PySem.Challenge.rw_cupclasses_k93_ends_and_barren_classes.Holds := by
  exact K93.holds_of K93.law
