import PyProof.Rows.All
import Wide.All
import OpenK.AllK
import Wide.FinOn
import HandS.ForMost
import HandS.Exc
import KE.DataEq
import KE.DataCmp
import KE.SortData
import HandS.Style
import HandS.Text
import HandS.TupAny
import HandS.IsInst
import HandS.TupLen
import KE.KDictPairs
import HandS.Zip
import KE.GoesMore
import KE.GoesEnum
import PyProof.EnumMake
import KE.KDictZip
import PyProof.ListNew
import HandS.TryOnly
import HandS.CallSlots
import HandS.Flow
import HandS.Comp
import HandS.ExcIs
import HandS.ExcCtx
import HandS.HotCalls
import HandS.DictComp
import HandS.SetFor
import PyProof.ExcBaseAll.ValueError
import HandS.Defaults
import HandS.WordsExc
import HandS.Ends
import HandS.HeadHook1
import HandS.HeadHook2
import HandS.HeadHook4
import HandS.HeadEnd
import HandS.Head0
import HandS.Head1
import HandS.Head2
import PySem.Challenge.RW_justenough_k05_rules_and_books_judged
set_option Elab.async false
set_option linter.all false
set_option autoImplicit false
set_option maxRecDepth 100000
section
set_option linter.all false
set_option autoImplicit false
/-! Mini: a small language (no positions) and its evaluator over data and a heap of cells. -/
namespace Mn
open PySem

/-- what a name holds: data; a cell; a list or a dict of the name's own -/
inductive RV where
  | dat (d : PyData) | ref (n : Nat) | olst (xs : List PyData) | odct (kvs : List (PyData × PyData)) | xcp (c : Nat) (arg : Option PyData)
  deriving Inhabited
/-- a cell of the heap: a list, a dict, an instance (class, fields), nothing any more -/
inductive Cell where
  | lst (xs : List PyData) | dct (kvs : List (PyData × PyData)) | ins (c : Nat) (fs : List (Nat × RV)) | dead
  deriving Inhabited
abbrev MH := List Cell
abbrev MEnv := List (Option RV)
structure Exn where
  c : Nat
  arg : Option PyData
  deriving Inhabited
inductive Out (α : Type) where
  | ok (a : α) (mh : MH) | exc (x : Exn) (mh : MH) | stuck
@[simp] def Out.bind {α β : Type} : Out α → (α → MH → Out β) → Out β
  | .ok a mh, k => k a mh
  | .exc x mh, _ => .exc x mh
  | .stuck, _ => .stuck
/-- what the defs do; which class is under which -/
structure CallF where
  call : Nat → List RV → MH → Out RV
  sub : Nat → Nat → Option Bool

/-! ### operations on data -/
def big (n : Nat) : Bool := decide (n ≤ 16777216)
def depOk (d : PyData) : Bool := d.plain && decide (d.depth ≤ 64)
def eqD (d e : PyData) : Option Bool := if depOk d && depOk e then some (PyData.eqv d e) else none
/-- the place that an index of any sign means -/
def ixD (n : Nat) (i : Int) : Option Nat := L2.ixN n i
def atD (xs : List PyData) (i : Int) : Option PyData := L2.atI xs i
def nn : PyData → Bool
  | .none => false
  | _ => true
def ltD (d e : PyData) : Option Bool := if depOk d && depOk e && PySem.W.alike d e && nn d then some (PySem.W.dataLt d e) else none
/-- the keys of dicts: ints, texts, tuples of these -/
def isKey1 : PyData → Bool
  | .int _ => true
  | .str _ => true
  | _ => false
def isKeyT : PyData → Bool
  | .tuple ks => ks.all isKey1
  | _ => false
def key1Eq : PyData → PyData → Bool
  | .int i, .int j => decide (i = j)
  | .str i, .str j => decide (i = j)
  | _, _ => false
def keysEq : List PyData → List PyData → Bool
  | [], [] => true
  | x :: xs, y :: ys => key1Eq x y && keysEq xs ys
  | _, _ => false
def keyEq : PyData → PyData → Bool
  | .tuple xs, .tuple ys => keysEq xs ys
  | x, y => key1Eq x y
/-- the kind of a dict's keys fits -/
def kindOk (kvs : List (PyData × PyData)) (k : PyData) : Bool :=
  (isKey1 k && kvs.all fun p => isKey1 p.1) || (isKeyT k && kvs.all fun p => isKeyT p.1)
def dget : List (PyData × PyData) → PyData → Option PyData
  | [], _ => none
  | (k, v) :: r, x => if keyEq k x then some v else dget r x
def dput (kvs : List (PyData × PyData)) (x y : PyData) : List (PyData × PyData) :=
  if kvs.any (fun p => keyEq p.1 x) then kvs.map (fun p => if keyEq p.1 x then (p.1, y) else p) else kvs ++ [(x, y)]
/-- one sign, or a text, within a text -/
def inStr (i j : Str) : Bool := match i with
  | ⟨⟨[c]⟩⟩ => decide (c ∈ j.cps.toList)
  | _ => !(Builtin.Str.occurrences j i 0 j.length 1).isEmpty
def inD (x c : PyData) : Option Bool := match c with
  | .list xs => if depOk x && depOk c then some (xs.any fun z => PyData.eqv z x) else none
  | .tuple xs => if depOk x && depOk c then some (xs.any fun z => PyData.eqv z x) else none
  | .str s => (match x with
    | .str i => some (inStr i s)
    | _ => none)
  | .dict kvs => if kindOk kvs x then some (dget kvs x).isSome else none
  | _ => none
def isD (x y : PyData) : Option Bool := match x, y with
  | .none, .none => some true
  | .bool _, .none => some false
  | .int _, .none => some false
  | .str _, .none => some false
  | .list _, .none => some false
  | .tuple _, .none => some false
  | .dict _, .none => some false
  | .bool a, .bool b => some (decide (a = b))
  | _, _ => none
def cmpD (op : CmpOp) (d e : PyData) : Option Bool := match op with
  | .Eq => eqD d e
  | .NotEq => (eqD d e).map not
  | .Lt => ltD d e
  | .Gt => ltD e d
  | .LtE => (ltD e d).map not
  | .GtE => (ltD d e).map not
  | .In => inD d e
  | .NotIn => (inD d e).map not
  | .Is => isD d e
  | .IsNot => (isD d e).map not
def truD : PyData → Option Bool
  | .none => some false
  | .bool b => some b
  | .int i => some (i != 0)
  | .str s => if big s.length then some (s.length != 0) else none
  | .list xs => some !xs.isEmpty
  | .tuple xs => some !xs.isEmpty
  | .dict _ => none
def small64 (i : Int) : Bool := decide (-(2 ^ 64) < i ∧ i < 2 ^ 64)
def binD (op : Operator) (d e : PyData) : Option PyData := match op, d, e with
  | .Add, .int i, .int j => some (.int (i + j))
  | .Add, .str a, .str b => if big (a.length + b.length) then some (.str (a ++ b)) else none
  | .Add, .list xs, .list ys => if big (xs.length + ys.length) then some (.list (xs ++ ys)) else none
  | .Add, .tuple xs, .tuple ys => if big (xs.length + ys.length) then some (.tuple (xs ++ ys)) else none
  | .Sub, .int i, .int j => some (.int (i - j))
  | .Mult, .int i, .int j => if small64 i || small64 j then some (.int (i * j)) else none
  | .FloorDiv, .int i, .int j => if decide (0 < j ∧ j < 1073741824) then some (.int (i / j)) else none
  | .Mod, .int i, .int j => if decide (0 < j) then some (.int (i % j)) else none
  | .Pow, .int i, .int j => if decide (0 ≤ j ∧ j ≤ 1000000) && small64 i && small64 (-i) then some (.int (i ^ j.toNat)) else none
  | _, _, _ => none
/-- a[i] -/
def idxD (d i : PyData) : Option PyData := match d, i with
  | .list xs, .int k => atD xs k
  | .tuple xs, .int k => atD xs k
  | .str s, .int k => if big s.length then (L2.atI s.cps.toList k).map fun c => .str ⟨#[c]⟩ else none
  | .dict kvs, k => if kindOk kvs k then dget kvs k else none
  | _, _ => none
/-- where a slice begins, ends -/
def cutD {α : Type} (xs : List α) (lo hi : Option Int) : List α := (xs.drop (HT.sIx xs.length 0 lo)).take (HT.sIx xs.length xs.length hi - HT.sIx xs.length 0 lo)
def sliD (d : PyData) (lo hi : Option Int) : Option PyData := match d with
  | .list xs => some (.list (cutD xs lo hi))
  | .tuple xs => some (.tuple (cutD xs lo hi))
  | _ => none
/-- built-in classes of isinstance -/
inductive Ty where
  | tup | str | int | bool | list | dict | lt
  deriving DecidableEq
def tyD (t : Ty) (d : PyData) : Bool := match t, d with
  | .tup, .tuple _ => true
  | .str, .str _ => true
  | .int, .int _ => true
  | .int, .bool _ => true
  | .bool, .bool _ => true
  | .list, .list _ => true
  | .dict, .dict _ => true
  | .lt, .list _ => true
  | .lt, .tuple _ => true
  | _, _ => false
/-- built-in functions of one or two values -/
inductive Blt where
  | len | tup | lst | dct | sorted | all | any | int | str | abs | min2
  deriving DecidableEq
def bools : List PyData → Option (List Bool)
  | [] => some []
  | .bool b :: r => (bools r).map fun l => b :: l
  | _ => none
/-- dict(pairs) -/
def pairsD : List PyData → List (PyData × PyData) → Option (List (PyData × PyData))
  | [], acc => some acc
  | .tuple [k, v] :: r, acc => if isKey1 k then pairsD r (dput acc k v) else none
  | _, _ => none
def sortD (xs : List PyData) : Option (List PyData) :=
  if (xs.all fun x => xs.all fun y => PySem.W.alike x y) && ((xs.all fun x => match x with | .tuple (_ :: _) => true | _ => false) || (xs.all fun x => match x with | .none => false | .tuple _ => false | _ => true)) && xs.all depOk then
    some (xs.mergeSort fun a b => !PySem.W.dataLt b a) else none
def un (f : PyData → Option PyData) : List PyData → Option PyData
  | [d] => f d
  | _ => none
def lenD : PyData → Option PyData
  | .str s => if big s.length then some (.int s.length) else none
  | .list xs => some (.int xs.length)
  | .tuple xs => some (.int xs.length)
  | .dict kvs => some (.int kvs.length)
  | _ => none
def tupD : PyData → Option PyData
  | .list xs => some (.tuple xs)
  | .tuple xs => some (.tuple xs)
  | _ => none
def lstD : PyData → Option PyData
  | .list xs => some (.list xs)
  | .tuple xs => some (.list xs)
  | _ => none
def dctD : PyData → Option PyData
  | .list xs => (pairsD xs []).map .dict
  | .tuple xs => (pairsD xs []).map .dict
  | _ => none
def sortedD : PyData → Option PyData
  | .list xs => (sortD xs).map .list
  | _ => none
def allD : PyData → Option PyData
  | .list xs => (bools xs).map fun l => .bool (l.all id)
  | _ => none
def anyD : PyData → Option PyData
  | .list xs => (bools xs).map fun l => .bool (l.any id)
  | _ => none
def intD : PyData → Option PyData
  | .int i => some (.int i)
  | .bool b => some (.int (if b then 1 else 0))
  | _ => none
def strD : PyData → Option PyData
  | .int i => if decide (i.natAbs.log2 < 1920) then some (.str (toString i)) else none
  | _ => none
def absD : PyData → Option PyData
  | .int i => some (.int (if i < 0 then -i else i))
  | _ => none
def min2D : List PyData → Option PyData
  | [.int i, .int j] => some (.int (if j < i then j else i))
  | _ => none
def bltD (b : Blt) (ds : List PyData) : Option PyData := match b with
  | .len => un lenD ds
  | .tup => un tupD ds
  | .lst => un lstD ds
  | .dct => un dctD ds
  | .sorted => un sortedD ds
  | .all => un allD ds
  | .any => un anyD ds
  | .int => un intD ds
  | .str => un strD ds
  | .abs => un absD ds
  | .min2 => min2D ds
/-- methods of built-in types that read -/
inductive Mth where
  | get2 | join
  deriving DecidableEq
def strsD : List PyData → Option (List Str)
  | [] => some []
  | .str s :: r => (strsD r).map fun l => s :: l
  | _ => none
def joinD (s : Str) (xs : List PyData) : Option PyData := match strsD xs with
  | some ys => if big ((ys.map (·.length)).sum + ys.length * s.length) then some (.str (Str.join s ys)) else none
  | none => none
def mthD (m : Mth) (o : PyData) (ds : List PyData) : Option PyData := match m, o, ds with
  | .get2, .dict kvs, [k, e] => if kindOk kvs k then some ((dget kvs k).getD e) else none
  | .join, .str s, [.list xs] => joinD s xs
  | .join, .str s, [.tuple xs] => joinD s xs
  | _, _, _ => none

/-! ### the language -/
/-- targets: a name's slot, a tuple of targets -/
inductive Tg where
  | nm (i : Nat) | nil | cons (t : Tg) (ts : Tg)
mutual
inductive E where
  | var (i : Nat)
  | cst (d : PyData)
  | glb (k : Nat) (d : PyData)
  | and_ (a b : E)
  | or_ (a b : E)
  | not_ (a : E)
  | cmp (op : CmpOp) (a b : E)
  | chain (op op' : CmpOp) (a b c : E)
  | bin (op : Operator) (a b : E)
  | cat (a b : E)
  | neg (a : E)
  | ite (c a b : E)
  | tup (es : Es)
  | lst (es : Es)
  | dsp (es : Es)
  | idx (a b : E)
  | slc (lo hi : Bool) (a l h : E)
  | isi (a : E) (t : Ty)
  | isx (i : Nat) (c : Nat)
  | xat (i : Nat) (c : Nat)
  | blt (b : Blt) (es : Es)
  | mth (m : Mth) (o : E) (es : Es)
  | popA (o : E) (es : Es)
  | call (f : Nat) (es : Es)
  | pcall (f : Nat) (es : Es)
  | comp (elt : E) (tg : Tg) (it : It) (c : E) (own : List Nat)
  | dcomp (k v : E) (tg : Tg) (it : It) (c : E) (own : List Nat)
  | lzip (a b : E)
  | rev (a : E)
inductive Es where
  | nil
  | cons (e : E) (es : Es)
  | star (e : E) (es : Es)
inductive It where
  | of (e : E)
  | rng1 (a : E)
  | rng2 (a b : E)
  | zip2 (a b : E)
  | zip3 (a b c : E)
  | enum (a : E)
end
mutual
inductive S where
  | expr (e : E)
  | asg (t : Tg) (e : E)
  | asgO (i : Nat) (e : E)
  | asgH (i : Nat) (e : E)
  | app (i : Nat) (e : E)
  | rem (i : Nat) (e : E)
  | setI (i : Nat) (k v : E)
  | aug (i : Nat) (op : Operator) (e : E)
  | ret (e : E)
  | retM (e : E)
  | retN
  | if_ (c : E) (a b : Ss)
  | for_ (t : Tg) (it : It) (body : Ss)
  | while_ (fuel : Nat) (c : E) (body : Ss)
  | brk
  | cont
  | pass
  | raise (c : Nat) (es : Es)
  | try_ (body : Ss) (c : Nat) (i : Option Nat) (suite : Ss)
  | frz (i : Nat)
  | nv
inductive Ss where
  | nil
  | cons (s : S) (r : Ss)
end

/-! ### the evaluator -/
def view (mh : MH) : RV → Option PyData
  | .dat d => some d
  | .olst xs => some (.list xs)
  | .odct kvs => some (.dict kvs)
  | .xcp _ _ => none
  | .ref n => match mh[n]? with
    | some (.lst xs) => some (.list xs)
    | some (.dct kvs) => some (.dict kvs)
    | _ => none
def viewE (rv : RV) (mh : MH) : Out PyData := match view mh rv with
  | some d => .ok d mh
  | none => .stuck
def ofD (o : Option PyData) (mh : MH) : Out RV := match o with
  | some d => .ok (.dat d) mh
  | none => .stuck
def ofB (o : Option Bool) (mh : MH) : Out RV := match o with
  | some b => .ok (.dat (.bool b)) mh
  | none => .stuck
def ofT (o : Option Bool) (mh : MH) : Out Bool := match o with
  | some b => .ok b mh
  | none => .stuck
def bindT : Tg → PyData → MEnv → Option MEnv
  | .nm i, d, env => if i < env.length then some (env.set i (some (.dat d))) else none
  | .nil, .tuple [], env => some env
  | .nil, .list [], env => some env
  | .cons t ts, .tuple (d :: ds), env => (bindT t d env).bind fun env' => bindT ts (.tuple ds) env'
  | .cons t ts, .list (d :: ds), env => (bindT t d env).bind fun env' => bindT ts (.list ds) env'
  | _, _, _ => none
def wipeM (env : MEnv) : List Nat → MEnv
  | [] => env
  | v :: vs => (wipeM env vs).set v none
/-- the turns of a comprehension -/
def compL (turn : PyData → MH → Out (Option PyData)) : List PyData → MH → List PyData → Out (List PyData)
  | [], mh, acc => .ok acc mh
  | x :: xs, mh, acc => (turn x mh).bind fun r mh' => match r with
    | some d => compL turn xs mh' (acc ++ [d])
    | none => compL turn xs mh' acc
/-- the turns of a dict comprehension -/
def dcmpL (turn : PyData → MH → Out (Option (PyData × PyData))) : List PyData → MH → List (PyData × PyData) → Out (List (PyData × PyData))
  | [], mh, acc => .ok acc mh
  | x :: xs, mh, acc => (turn x mh).bind fun r mh' => match r with
    | some p => if isKey1 p.1 then dcmpL turn xs mh' (dput acc p.1 p.2) else .stuck
    | none => dcmpL turn xs mh' acc
def noExc {α : Type} : Out α → Out α
  | .exc _ _ => .stuck
  | o => o
def zipD2 : List PyData → List PyData → List PyData
  | x :: xs, y :: ys => .tuple [x, y] :: zipD2 xs ys
  | _, _ => []
def zipD3 : List PyData → List PyData → List PyData → List PyData
  | x :: xs, y :: ys, z :: zs => .tuple [x, y, z] :: zipD3 xs ys zs
  | _, _, _ => []
def enumD : Nat → List PyData → List PyData
  | _, [] => []
  | n, x :: xs => .tuple [.int n, x] :: enumD (n + 1) xs
def rngD (lo : Int) : Nat → List PyData
  | 0 => []
  | n + 1 => .int lo :: rngD (lo + 1) n
/-- what is walked of data -/
def itemsD : PyData → Option (List PyData)
  | .list xs => some xs
  | .tuple xs => some xs
  | .str s => some (s.cps.toList.map fun c => .str ⟨#[c]⟩)
  | _ => none
def seqD : PyData → Option (List PyData)
  | .list xs => some xs
  | .tuple xs => some xs
  | _ => none
/-- xs[::-1] -/
def revD : PyData → Option PyData
  | .list xs => some (.list xs.reverse)
  | _ => none
/-- xs.remove(x), texts -/
def isStrD : PyData → Bool
  | .str _ => true
  | _ => false
def remD (d : PyData) : PyData → Option PyData
  | .list xs => (match d with
    | .str x => if xs.all isStrD then (match xs.findIdx? (fun z => keyEq z (.str x)) with
      | some j => some (.list (xs.eraseIdx j))
      | none => none) else none
    | _ => none)
  | _ => none
def datOnly : RV → Option PyData
  | .dat d => some d
  | _ => none
/-- no list, no dict lies within -/
def noLd : PyData → Bool
  | .none => true
  | .bool _ => true
  | .int _ => true
  | .str _ => true
  | .tuple xs => noLdA xs
  | _ => false
where noLdA : List PyData → Bool
  | [] => true
  | x :: xs => noLd x && noLdA xs
def views (mh : MH) : List RV → Option (List PyData)
  | [] => some []
  | r :: rs => match view mh r, views mh rs with
    | some d, some ds => some (d :: ds)
    | _, _ => none
def RV.passes : RV → Bool
  | .dat _ => true
  | .ref _ => true
  | _ => false
def RV.isDat : RV → Bool
  | .dat _ => true
  | _ => false
/-- a call that sees no cell: b: nothing is lent to it -/
def pureCall (b : Bool) (o : Out RV) (mh : MH) : Out RV := match o with
  | .ok (.dat d) _ => if b || noLd d then .ok (.dat d) mh else .stuck
  | .ok (.olst xs) _ => if b || noLd.noLdA xs then .ok (.olst xs) mh else .stuck
  | .ok (.odct kvs) _ => if b then .ok (.odct kvs) mh else .stuck
  | .exc x _ => if b || (match x.arg with | some d => noLd d | none => true) then .exc x mh else .stuck
  | _ => .stuck
/-- a dict display: keys and values, one behind the other -/
def putAll : List PyData → List (PyData × PyData) → Option (List (PyData × PyData))
  | [], acc => some acc
  | k :: v :: r, acc => if isKey1 k then putAll r (dput acc k v) else none
  | _, _ => none
def dspD (ds : List PyData) : Option PyData := if decide (ds.length ≤ 30) then (putAll ds []).map .dict else none
def mthTy (m : Mth) (o : Option PyData) : Bool := match m, o with
  | .get2, some (.dict _) => true
  | .join, some (.str _) => true
  | _, _ => false
def isLstC (x : RV) (mh : MH) : Bool := match x with
  | .ref n => (match mh[n]? with
    | some (.lst _) => true
    | _ => false)
  | _ => false
def small62 (i : Int) : Bool := decide (-(2 ^ 62) ≤ i ∧ i < 2 ^ 62)
/-- xs.pop(i) of a cell -/
def popC (x : RV) (ds : List PyData) (mh : MH) : Out RV := match x with
  | .ref n => (match mh[n]?, ds with
    | some (.lst xs), [.int i] => (match (if small62 i then ixD xs.length i else none) with
      | some k => (match xs[k]? with
        | some d => .ok (.dat d) (mh.set n (.lst (xs.eraseIdx k)))
        | none => .stuck)
      | none => .stuck)
    | _, _ => .stuck)
  | _ => .stuck
def partO (b : Bool) (m : MEnv → MH → Out RV) (env : MEnv) (mh : MH) : Out (Option Int) := if b then (m env mh).bind fun y mh => (match y with
  | .dat (.int i) => .ok (some i) mh
  | _ => .stuck) else .ok none mh
/-- a value's test is its truth -/
def tv (v : MEnv → MH → Out RV) : (MEnv → MH → Out RV) × (MEnv → MH → Out Bool) :=
  (v, fun env mh => (v env mh).bind fun x mh => match view mh x with
      | some d => ofT (truD d) mh
      | none => .stuck)
mutual
def evP (C : CallF) : E → (MEnv → MH → Out RV) × (MEnv → MH → Out Bool)
  | .var i => tv (fun env mh => match env[i]? with
    | some (some rv) => .ok rv mh
    | _ => .stuck)
  | .cst d => (fun _ mh => .ok (.dat d) mh, fun _ mh => ofT (truD d) mh)
  | .glb _ d => tv (fun _ mh => .ok (.dat d) mh)
  | .and_ a b => (fun env mh => ((evP C a).1 env mh).bind fun r mh => match r with
    | .dat (.bool true) => (evP C b).1 env mh
    | .dat (.bool false) => .ok (.dat (.bool false)) mh
    | _ => .stuck,
    fun env mh => ((evP C a).2 env mh).bind fun r mh => match r with
    | true => (evP C b).2 env mh
    | false => .ok false mh)
  | .or_ a b => (fun env mh => ((evP C a).1 env mh).bind fun r mh => match r with
    | .dat (.bool false) => (evP C b).1 env mh
    | .dat (.bool true) => .ok (.dat (.bool true)) mh
    | _ => .stuck,
    fun env mh => ((evP C a).2 env mh).bind fun r mh => match r with
    | true => .ok true mh
    | false => (evP C b).2 env mh)
  | .not_ a => (fun env mh => ((evP C a).1 env mh).bind fun x mh => match view mh x with
      | some d => ofB ((truD d).map not) mh
      | none => .stuck,
    fun env mh => ((evP C a).2 env mh).bind fun b mh => .ok (!b) mh)
  | .cmp op a b => (fun env mh => ((evP C a).1 env mh).bind fun x mh => ((evP C b).1 env mh).bind fun y mh =>
      match view mh x, view mh y with
      | some d, some e => ofB (cmpD op d e) mh
      | _, _ => .stuck,
    fun env mh => ((evP C a).1 env mh).bind fun x mh => ((evP C b).1 env mh).bind fun y mh =>
      match view mh x, view mh y with
      | some d, some e => ofT (cmpD op d e) mh
      | _, _ => .stuck)
  | .chain op op' a b c => (fun env mh => ((evP C a).1 env mh).bind fun x mh => ((evP C b).1 env mh).bind fun y mh =>
      match view mh x, view mh y with
      | some d, some e => (match cmpD op d e with
        | some true => ((evP C c).1 env mh).bind fun z mh => (match view mh y, view mh z with
          | some e, some f => ofB (cmpD op' e f) mh
          | _, _ => .stuck)
        | some false => .ok (.dat (.bool false)) mh
        | none => .stuck)
      | _, _ => .stuck,
    fun env mh => ((evP C a).1 env mh).bind fun x mh => ((evP C b).1 env mh).bind fun y mh =>
      match view mh x, view mh y with
      | some d, some e => (match cmpD op d e with
        | some true => ((evP C c).1 env mh).bind fun z mh => (match view mh y, view mh z with
          | some e, some f => ofT (cmpD op' e f) mh
          | _, _ => .stuck)
        | some false => .ok false mh
        | none => .stuck)
      | _, _ => .stuck)
  | .bin op a b => tv (fun env mh => ((evP C a).1 env mh).bind fun x mh => ((evP C b).1 env mh).bind fun y mh =>
      match view mh x, view mh y with
      | some d, some e => ofD (binD op d e) mh
      | _, _ => .stuck)
  | .cat a b => tv (fun env mh => ((evP C a).1 env mh).bind fun x mh => ((evP C b).1 env mh).bind fun y mh =>
      match view mh x, view mh y with
      | some (.list xs), some (.list ys) => if big (xs.length + ys.length) then .ok (.dat (.list (xs ++ ys))) mh else .stuck
      | _, _ => .stuck)
  | .neg a => tv (fun env mh => ((evP C a).1 env mh).bind fun x mh => match x with
      | .dat (.int i) => .ok (.dat (.int (-i))) mh
      | _ => .stuck)
  | .ite c a b => (fun env mh => ((evP C c).2 env mh).bind fun t mh => match t with
      | true => (evP C a).1 env mh
      | false => (evP C b).1 env mh,
    fun env mh => ((evP C c).2 env mh).bind fun t mh => match t with
      | true => (evP C a).2 env mh
      | false => (evP C b).2 env mh)
  | .tup es => tv (fun env mh => (evEs C es env mh).bind fun ds mh => if big ds.length then .ok (.dat (.tuple ds)) mh else .stuck)
  | .lst es => tv (fun env mh => (evEs C es env mh).bind fun ds mh => if big ds.length then .ok (.dat (.list ds)) mh else .stuck)
  | .dsp es => tv (fun env mh => (evEs C es env mh).bind fun ds mh => ofD (dspD ds) mh)
  | .idx a b => tv (fun env mh => ((evP C a).1 env mh).bind fun x mh => ((evP C b).1 env mh).bind fun y mh =>
      match view mh x, view mh y with
      | some d, some e => ofD (idxD d e) mh
      | _, _ => .stuck)
  | .slc lo hi a l h => tv (fun env mh => ((evP C a).1 env mh).bind fun x mh => (partO lo (evP C l).1 env mh).bind fun p mh => (partO hi (evP C h).1 env mh).bind fun q mh =>
      match view mh x with
      | some d => ofD (sliD d p q) mh
      | none => .stuck)
  | .isi a t => tv (fun env mh => ((evP C a).1 env mh).bind fun x mh => match view mh x with
      | some d => .ok (.dat (.bool (tyD t d))) mh
      | none => .stuck)
  | .isx i c => tv (fun env mh => match env[i]? with
    | some (some (.xcp x none)) => ofB (C.sub x c) mh
    | _ => .stuck)
  | .xat i c => tv (fun env mh => match env[i]? with
    | some (some (.xcp x (some d))) => if x = c then .ok (.dat d) mh else .stuck
    | _ => .stuck)
  | .blt b es => tv (fun env mh => (evVs C es env mh).bind fun rs mh => match views mh rs with
      | some ds => ofD (bltD b ds) mh
      | none => .stuck)
  | .mth m o es => tv (fun env mh => ((evP C o).1 env mh).bind fun x mh => if mthTy m (view mh x) then (evEs C es env mh).bind fun ds mh => (match view mh x with
      | some d => ofD (mthD m d ds) mh
      | none => .stuck) else .stuck)
  | .popA o es => tv (fun env mh => ((evP C o).1 env mh).bind fun x mh => if isLstC x mh then (evEs C es env mh).bind fun ds mh => popC x ds mh else .stuck)
  | .call f es => tv (fun env mh => (evVs C es env mh).bind fun rs mh => if rs.all RV.passes then C.call f rs mh else .stuck)
  | .pcall f es => tv (fun env mh => (evVs C es env mh).bind fun rs mh => match views mh rs with
      | some ds => pureCall (rs.all RV.isDat) (C.call f (ds.map .dat) []) mh
      | none => .stuck)
  | .comp elt tg it c own => tv (fun env mh => (evIt C it env mh).bind fun xs mh => if big xs.length then
      noExc ((compL (fun x mh => match bindT tg x (wipeM env own) with
        | some env' => ((evP C c).2 env' mh).bind fun t mh => (match t with
          | true => ((evP C elt).1 env' mh).bind fun r mh => (match r with
            | .dat d => .ok (some d) mh
            | _ => .stuck)
          | false => .ok none mh)
        | none => .stuck) xs mh []).bind fun ds mh => .ok (.dat (.list ds)) mh) else .stuck)
  | .dcomp k v tg it c own => tv (fun env mh => (evIt C it env mh).bind fun xs mh => if big xs.length then
      noExc ((dcmpL (fun x mh => match bindT tg x (wipeM env own) with
        | some env' => ((evP C c).2 env' mh).bind fun t mh => (match t with
          | true => ((evP C k).1 env' mh).bind fun r mh => (match r with
            | .dat d => ((evP C v).1 env' mh).bind fun q mh => (match q with
              | .dat e => .ok (some (d, e)) mh
              | _ => .stuck)
            | _ => .stuck)
          | false => .ok none mh)
        | none => .stuck) xs mh []).bind fun kvs mh => .ok (.dat (.dict kvs)) mh) else .stuck)
  | .lzip a b => tv (fun env mh => ((evP C a).1 env mh).bind fun x mh => ((evP C b).1 env mh).bind fun y mh => match x, y with
      | .dat d, .dat e => (match seqD d, seqD e with
        | some xs, some ys => .ok (.dat (.list (zipD2 xs ys))) mh
        | _, _ => .stuck)
      | _, _ => .stuck)
  | .rev a => tv (fun env mh => ((evP C a).1 env mh).bind fun x mh => match view mh x with
      | some d => ofD (revD d) mh
      | none => .stuck)
/-- values that are data -/
def evEs (C : CallF) : Es → MEnv → MH → Out (List PyData)
  | .nil, _, mh => .ok [] mh
  | .cons e es, env, mh => ((evP C e).1 env mh).bind fun x mh => match x with
      | .dat d => (evEs C es env mh).bind fun ds mh => .ok (d :: ds) mh
      | _ => .stuck
  | .star _ _, _, _ => .stuck
/-- values -/
def evVs (C : CallF) : Es → MEnv → MH → Out (List RV)
  | .nil, _, mh => .ok [] mh
  | .cons e es, env, mh => ((evP C e).1 env mh).bind fun x mh => (evVs C es env mh).bind fun xs mh => .ok (x :: xs) mh
  | .star _ _, _, _ => .stuck
def evIt (C : CallF) : It → MEnv → MH → Out (List PyData)
  | .of e, env, mh => ((evP C e).1 env mh).bind fun x mh => match x with
      | .dat d => (match itemsD d with
        | some xs => .ok xs mh
        | none => .stuck)
      | .olst xs => .ok xs mh
      | _ => .stuck
  | .rng1 a, env, mh => ((evP C a).1 env mh).bind fun x mh => match x with
      | .dat (.int n) => if decide (-16777216 ≤ n ∧ n ≤ 16777216) then .ok (rngD 0 n.toNat) mh else .stuck
      | _ => .stuck
  | .rng2 a b, env, mh => ((evP C a).1 env mh).bind fun x mh => ((evP C b).1 env mh).bind fun y mh => match x, y with
      | .dat (.int i), .dat (.int j) => if decide (-16777216 ≤ i ∧ i ≤ 16777216 ∧ -16777216 ≤ j ∧ j ≤ 16777216) then .ok (rngD i (j - i).toNat) mh else .stuck
      | _, _ => .stuck
  | .zip2 a b, env, mh => ((evP C a).1 env mh).bind fun x mh => ((evP C b).1 env mh).bind fun y mh => match x, y with
      | .dat d, .dat e => (match seqD d, seqD e with
        | some xs, some ys => .ok (zipD2 xs ys) mh
        | _, _ => .stuck)
      | _, _ => .stuck
  | .zip3 a b c, env, mh => ((evP C a).1 env mh).bind fun x mh => ((evP C b).1 env mh).bind fun y mh => ((evP C c).1 env mh).bind fun z mh => match x, y, z with
      | .dat d, .dat e, .dat f => (match seqD d, seqD e, seqD f with
        | some xs, some ys, some zs => .ok (zipD3 xs ys zs) mh
        | _, _, _ => .stuck)
      | _, _, _ => .stuck
  | .enum a, env, mh => ((evP C a).1 env mh).bind fun x mh => match x with
      | .dat d => (match seqD d with
        | some xs => .ok (enumD 0 xs) mh
        | none => .stuck)
      | _ => .stuck
end
def evE (C : CallF) (e : E) (env : MEnv) (mh : MH) : Out RV := (evP C e).1 env mh
def evT (C : CallF) (e : E) (env : MEnv) (mh : MH) : Out Bool := (evP C e).2 env mh

/-- a statement's end -/
inductive SO where
  | next (env : MEnv) (mh : MH) | ret (rv : RV) (mh : MH) | brk (env : MEnv) (mh : MH) | cont (env : MEnv) (mh : MH) | exc (x : Exn) (env : MEnv) (mh : MH) | stuck
def SO.of {α : Type} (env : MEnv) (k : α → MH → SO) : Out α → SO
  | .ok a mh => k a mh
  | .exc x mh => .exc x env mh
  | .stuck => .stuck
def SO.then (k : MEnv → MH → SO) : SO → SO
  | .next env mh => k env mh
  | o => o
def SO.turn (k : MEnv → MH → SO) : SO → SO
  | .next env mh => k env mh
  | .cont env mh => k env mh
  | .brk env mh => .next env mh
  | o => o
def RV.noX : RV → Bool
  | .xcp _ _ => false
  | _ => true
def noX (env : MEnv) : Bool := env.all fun o => match o with
  | some r => r.noX
  | none => true
/-- the end of a suite: the error's name is gone -/
def SO.unX (k : Nat) : SO → SO
  | .next e m => if noX (e.set k none) then .next (e.set k none) m else .stuck
  | .brk e m => if noX (e.set k none) then .brk (e.set k none) m else .stuck
  | .cont e m => if noX (e.set k none) then .cont (e.set k none) m else .stuck
  | .ret r m => if r.noX then .ret r m else .stuck
  | _ => .stuck
def forL (t : Tg) (body : MEnv → MH → SO) : List PyData → MEnv → MH → SO
  | [], env, mh => .next env mh
  | x :: xs, env, mh => match bindT t x env with
    | some env' => (body env' mh).turn (forL t body xs)
    | none => .stuck
def whileL (c : MEnv → MH → Out Bool) (body : MEnv → MH → SO) : Nat → MEnv → MH → SO
  | 0, _, _ => .stuck
  | n + 1, env, mh => SO.of env (fun b mh => match b with
    | true => (body env mh).turn (whileL c body n)
    | false => .next env mh) (c env mh)
/-- an expression that makes a new list or dict -/
def isFresh : E → Bool
  | .lst _ => true
  | .dsp _ => true
  | .comp _ _ _ _ _ => true
  | .dcomp _ _ _ _ _ _ => true
  | .lzip _ _ => true
  | .cat _ _ => true
  | .blt .lst _ => true
  | .blt .dct _ => true
  | .blt .sorted _ => true
  | _ => false
def isCall : E → Bool
  | .pcall _ _ => true
  | .call _ _ => true
  | _ => false
/-- a new list or dict, as a value of its own -/
def freshV (e : E) (r : RV) : Option RV := match r with
  | .dat (.list xs) => if isFresh e then some (.olst xs) else none
  | .dat (.dict kvs) => if isFresh e then some (.odct kvs) else none
  | .olst xs => if isCall e then some (.olst xs) else none
  | .odct kvs => if isCall e then some (.odct kvs) else none
  | _ => none
def toCell : RV → Cell
  | .olst xs => .lst xs
  | .odct kvs => .dct kvs
  | _ => .dead
/-- what is walked by a statement: not a list of a name's own -/
def evItF (C : CallF) (it : It) (env : MEnv) (mh : MH) : Out (List PyData) := match it with
  | .of e => ((evP C e).1 env mh).bind fun x mh => match x with
      | .dat d => (match itemsD d with
        | some xs => .ok xs mh
        | none => .stuck)
      | _ => .stuck
  | it => evIt C it env mh
def setN (i : Nat) (rv : RV) (env : MEnv) (mh : MH) : SO := if i < env.length then .next (env.set i (some rv)) mh else .stuck
/-- x[k] = v -/
def putC : PyData → PyData → PyData → Option PyData
  | .list xs, .int k, v => (ixD xs.length k).map fun j => .list (xs.set j v)
  | .dict kvs, k, v => if isKey1 k && kvs.all (fun p => isKey1 p.1) && big (kvs.length + 1) then some (.dict (dput kvs k v)) else none
  | _, _, _ => none
/-- the name's or the cell's list or dict is another one -/
def upR (i : Nat) (f : PyData → Option PyData) (env : MEnv) (mh : MH) : SO := match env[i]? with
  | some (some (.olst xs)) => (match f (.list xs) with
    | some (.list ys) => .next (env.set i (some (.olst ys))) mh
    | _ => .stuck)
  | some (some (.odct kvs)) => (match f (.dict kvs) with
    | some (.dict ys) => .next (env.set i (some (.odct ys))) mh
    | _ => .stuck)
  | some (some (.ref n)) => (match mh[n]? with
    | some (.lst xs) => (match f (.list xs) with
      | some (.list ys) => .next env (mh.set n (.lst ys))
      | _ => .stuck)
    | some (.dct kvs) => (match f (.dict kvs) with
      | some (.dict ys) => .next env (mh.set n (.dct ys))
      | _ => .stuck)
    | _ => .stuck)
  | _ => .stuck
def hasAt (env : MEnv) (i : Nat) : Bool := match env[i]? with
  | some (some _) => true
  | _ => false
/-- the name holds a list that may be written -/
def lstAt (env : MEnv) (mh : MH) (i : Nat) : Bool := match env[i]? with
  | some (some (.olst _)) => true
  | some (some r) => isLstC r mh
  | _ => false
def appD (d : PyData) : PyData → Option PyData
  | .list xs => if big (xs.length + 1) then some (.list (xs ++ [d])) else none
  | _ => none
def frzR : RV → Option RV
  | .dat d => some (.dat d)
  | .ref n => some (.ref n)
  | .olst xs => some (.dat (.list xs))
  | .odct kvs => some (.dat (.dict kvs))
  | .xcp _ _ => none
mutual
def evS (C : CallF) : S → MEnv → MH → SO
  | .expr e, env, mh => SO.of env (fun _ mh => .next env mh) (evE C e env mh)
  | .asg t e, env, mh => SO.of env (fun r mh => match r, t with
      | .dat d, t => (match bindT t d env with
        | some env' => .next env' mh
        | none => .stuck)
      | .ref n, .nm i => setN i (.ref n) env mh
      | _, _ => .stuck) (evE C e env mh)
  | .asgO i e, env, mh => SO.of env (fun r mh => match freshV e r with
      | some r => setN i r env mh
      | none => .stuck) (evE C e env mh)
  | .asgH i e, env, mh => SO.of env (fun r mh => match freshV e r with
      | some r => setN i (.ref mh.length) env (mh ++ [toCell r])
      | none => .stuck) (evE C e env mh)
  | .app i e, env, mh => if lstAt env mh i then SO.of env (fun r mh => match r with
      | .dat d => upR i (appD d) env mh
      | _ => .stuck) (evE C e env mh) else .stuck
  | .rem i e, env, mh => if lstAt env mh i then SO.of env (fun r mh => match r with
      | .dat d => upR i (remD d) env mh
      | _ => .stuck) (evE C e env mh) else .stuck
  | .setI i k v, env, mh => if hasAt env i then SO.of env (fun r mh => SO.of env (fun q mh => match r, q with
      | .dat d, .dat x => upR i (fun c => putC c x d) env mh
      | _, _ => .stuck) (evE C k env mh)) (evE C v env mh) else .stuck
  | .aug i op e, env, mh => match env[i]? with
    | some (some (.dat (.int a))) => SO.of env (fun r mh => match r with
      | .dat (.int b) => (match op with
        | .Add => .next (env.set i (some (.dat (.int (a + b))))) mh
        | .Sub => .next (env.set i (some (.dat (.int (a - b))))) mh
        | _ => .stuck)
      | _ => .stuck) (evE C e env mh)
    | _ => .stuck
  | .ret e, env, mh => match e with
    | .var i => (match env[i]? with
      | some (some r) => (match frzR r with
        | some r => .ret r mh
        | none => .stuck)
      | _ => .stuck)
    | e => SO.of env (fun r mh => match r with
      | .dat d => .ret (.dat d) mh
      | .ref n => .ret (.ref n) mh
      | _ => .stuck) (evE C e env mh)
  | .retM e, env, mh => match e with
    | .var i => (match env[i]? with
      | some (some (.olst xs)) => .ret (.olst xs) mh
      | some (some (.odct kvs)) => .ret (.odct kvs) mh
      | _ => .stuck)
    | e => SO.of env (fun r mh => match freshV e r with
      | some r => .ret r mh
      | none => .stuck) (evE C e env mh)
  | .retN, _, mh => .ret (.dat .none) mh
  | .if_ c a b, env, mh => SO.of env (fun t mh => match t with
      | true => evSs C a env mh
      | false => evSs C b env mh) (evT C c env mh)
  | .for_ t it body, env, mh => SO.of env (fun xs mh => forL t (fun env mh => evSs C body env mh) xs env mh) (evItF C it env mh)
  | .while_ fuel c body, env, mh => whileL (fun env mh => evT C c env mh) (fun env mh => evSs C body env mh) fuel env mh
  | .brk, env, mh => .brk env mh
  | .cont, env, mh => .cont env mh
  | .pass, env, mh => .next env mh
  | .raise c es, env, mh => SO.of env (fun ds mh => match ds with
      | [] => .exc ⟨c, none⟩ env mh
      | [d] => .exc ⟨c, some d⟩ env mh
      | _ => .stuck) (evEs C es env mh)
  | .try_ body c i suite, env, mh => match evSs C body env mh with
    | .exc x env' mh' => (match C.sub x.c c with
      | some true => (match i with
        | some k => if k < env'.length then (evSs C suite (env'.set k (some (.xcp x.c x.arg))) mh').unX k else .stuck
        | none => (match evSs C suite env' mh' with
          | .exc _ _ _ => .stuck
          | o => o))
      | some false => .exc x env' mh'
      | none => .stuck)
    | o => o
  | .frz i, env, mh => match env[i]? with
    | some (some (.olst xs)) => .next (env.set i (some (.dat (.list xs)))) mh
    | some (some (.odct kvs)) => .next (env.set i (some (.dat (.dict kvs)))) mh
    | _ => .next env mh
  | .nv, _, _ => .stuck
def evSs (C : CallF) : Ss → MEnv → MH → SO
  | .nil, env, mh => .next env mh
  | .cons s r, env, mh => (evS C s env mh).then (fun env mh => evSs C r env mh)
end
/-- a def: how many parameters, how many names, its body -/
structure FDef where
  ps : Nat
  ns : Nat
  body : Ss
def bodyEnd : SO → Out RV
  | .next _ mh => .ok (.dat .none) mh
  | .ret r mh => .ok r mh
  | .exc x _ mh => .exc x mh
  | _ => .stuck
def runF (C : CallF) (d : FDef) (rs : List RV) (mh : MH) : Out RV :=
  if rs.length = d.ps ∧ d.ps ≤ d.ns ∧ rs.all RV.passes = true then bodyEnd (evSs C d.body (rs.map some ++ List.replicate (d.ns - d.ps) none) mh) else .stuck
/-- calls to a depth -/
def callN (P : Nat → Option FDef) (sub : Nat → Nat → Option Bool) : Nat → Nat → List RV → MH → Out RV
  | 0, _, _, _ => .stuck
  | n + 1, f, rs, mh => match P f with
    | some d => runF ⟨callN P sub n, sub⟩ d rs mh
    | none => .stuck
end Mn
end
section
set_option linter.all false
set_option autoImplicit false
set_option maxRecDepth 100000
/-! Mini: how the evaluator's state lies in the abstract heap. -/
namespace Mn
open PySem PySem.Spec PyProof.Rows L2

/-- which addresses never change any more; where the cells lie -/
structure Wd where
  F : Addr → Prop
  cs : List Addr

def keyD : Key → PyData
  | .inl i => .int i
  | .inr x => .str x

/-- the program and the world that the keys' hashes lean on -/
structure Pw where
  P : Program
  w : World
/-- a dict whose keys are tuples: its entries, by the keys, where they stand, the values -/
def TD (g : Pw) (a : Addr) (xs : List (List Key × Addr × Value)) : HO := .ext fun h => xs.length ≤ sizeLine ∧ (a == sysModules) = false ∧ (xs.map (·.1)).Nodup ∧
  ∃ o es ep, h.get? a = some o ∧ o.ExactDict ∧ o.data = .dict es ep ∧ es.toList = xs.map (entryOfKey (tupleKind (mixKind g.P g.w)))
/-- a tuple that is known -/
def TupAt (H : Hp) (a : Addr) (xs : List V) : Prop := ∃ o, H a = some (.frz o (.tup xs)) ∧ o.dict = none
mutual
/-- a value is that datum: what it is made of stands at frozen addresses -/
inductive Dv (g : Pw) (F : Addr → Prop) (H : Hp) : V → PyData → Prop
  | non : Dv g F H .non .none
  | bl (b : Bool) : Dv g F H (.bl b) (.bool b)
  | int (i : Int) : Dv g F H (.int i) (.int i)
  | str (x : Str) : Dv g F H (.str x) (.str x)
  | lst {a : Addr} {xs : List V} {ds : List PyData} : F a → Rd H a (.lst xs) → DvA g F H xs ds → Dv g F H (.ref a) (.list ds)
  | tup {a : Addr} {xs : List V} {ds : List PyData} : F a → TupAt H a xs → DvA g F H xs ds → Dv g F H (.ref a) (.tuple ds)
  | dK {a : Addr} {kvs : List (Key × V)} {ps : List (PyData × PyData)} : F a → Rd H a (.dK kvs) → DvK g F H kvs ps → Dv g F H (.ref a) (.dict ps)
  | dT {a : Addr} {kvs : List (List Key × Addr × Value)} {ps : List (PyData × PyData)} : F a → Rd H a (TD g a kvs) → DvT g F H kvs ps → Dv g F H (.ref a) (.dict ps)
inductive DvA (g : Pw) (F : Addr → Prop) (H : Hp) : List V → List PyData → Prop
  | nil : DvA g F H [] []
  | cons {v : V} {vs : List V} {d : PyData} {ds : List PyData} : Dv g F H v d → DvA g F H vs ds → DvA g F H (v :: vs) (d :: ds)
inductive DvK (g : Pw) (F : Addr → Prop) (H : Hp) : List (Key × V) → List (PyData × PyData) → Prop
  | nil : DvK g F H [] []
  | cons {k : Key} {v : V} {vs : List (Key × V)} {d : PyData} {ds : List (PyData × PyData)} : Dv g F H v d → DvK g F H vs ds → DvK g F H ((k, v) :: vs) ((keyD k, d) :: ds)
inductive DvT (g : Pw) (F : Addr → Prop) (H : Hp) : List (List Key × Addr × Value) → List (PyData × PyData) → Prop
  | nil : DvT g F H [] []
  | cons {k : List Key} {b : Addr} {u : Value} {v : V} {vs : List (List Key × Addr × Value)} {d : PyData} {ds : List (PyData × PyData)} : F b → TupAt H b (k.map kV) → RelV v u → Dv g F H v d → DvT g F H vs ds →
      DvT g F H ((k, b, u) :: vs) ((.tuple (k.map keyD), d) :: ds)
end

mutual
theorem Dv.mono {g : Pw} {F F' : Addr → Prop} {H H' : Hp} (hF : ∀ a, F a → F' a) (hH : ∀ a o, F a → H a = some o → H' a = some o) : ∀ {v : V} {d : PyData}, Dv g F H v d → Dv g F' H' v d
  | _, _, .non => .non
  | _, _, .bl b => .bl b
  | _, _, .int i => .int i
  | _, _, .str x => .str x
  | _, _, .lst f r t => .lst (hF _ f) (rd_mono (fun o e => hH _ o f e) r) (DvA.mono hF hH t)
  | _, _, .tup f r t => .tup (hF _ f) (let ⟨o, e, c⟩ := r; ⟨o, hH _ _ f e, c⟩) (DvA.mono hF hH t)
  | _, _, .dK f r t => .dK (hF _ f) (rd_mono (fun o e => hH _ o f e) r) (DvK.mono hF hH t)
  | _, _, .dT f r t => .dT (hF _ f) (rd_mono (fun o e => hH _ o f e) r) (DvT.mono hF hH t)
where rd_mono {H H' : Hp} {a : Addr} {u : HO} (k : ∀ o, H a = some o → H' a = some o) : Rd H a u → Rd H' a u
  | .inl e => .inl (k _ e)
  | .inr ⟨o, e⟩ => .inr ⟨o, k _ e⟩
theorem DvA.mono {g : Pw} {F F' : Addr → Prop} {H H' : Hp} (hF : ∀ a, F a → F' a) (hH : ∀ a o, F a → H a = some o → H' a = some o) : ∀ {v : List V} {d : List PyData}, DvA g F H v d → DvA g F' H' v d
  | _, _, .nil => .nil
  | _, _, .cons r t => .cons (Dv.mono hF hH r) (DvA.mono hF hH t)
theorem DvK.mono {g : Pw} {F F' : Addr → Prop} {H H' : Hp} (hF : ∀ a, F a → F' a) (hH : ∀ a o, F a → H a = some o → H' a = some o) : ∀ {v : List (Key × V)} {d : List (PyData × PyData)}, DvK g F H v d → DvK g F' H' v d
  | _, _, .nil => .nil
  | _, _, .cons r t => .cons (Dv.mono hF hH r) (DvK.mono hF hH t)
theorem DvT.mono {g : Pw} {F F' : Addr → Prop} {H H' : Hp} (hF : ∀ a, F a → F' a) (hH : ∀ a o, F a → H a = some o → H' a = some o) : ∀ {v : List (List Key × Addr × Value)} {d : List (PyData × PyData)}, DvT g F H v d → DvT g F' H' v d
  | _, _, .nil => .nil
  | _, _, .cons f r q x t => .cons (hF _ f) (let ⟨o, e, c⟩ := r; ⟨o, hH _ _ f e, c⟩) q (Dv.mono hF hH x) (DvT.mono hF hH t)
end

/-! ### lists of data -/
section
variable {g : Pw} {F : Addr → Prop} {H : Hp}
theorem DvA.length : ∀ {vs : List V} {ds : List PyData}, DvA g F H vs ds → vs.length = ds.length
  | _, _, .nil => rfl
  | _, _, .cons _ t => by rw [List.length_cons, List.length_cons, t.length]
theorem DvA.append : ∀ {xs ys : List V} {ds es : List PyData}, DvA g F H xs ds → DvA g F H ys es → DvA g F H (xs ++ ys) (ds ++ es)
  | _, _, _, _, .nil, s => s
  | _, _, _, _, .cons r t, s => .cons r (t.append s)
theorem DvA.get : ∀ {vs : List V} {ds : List PyData} {i : Nat} {d : PyData}, DvA g F H vs ds → ds[i]? = some d → ∃ v, vs[i]? = some v ∧ Dv g F H v d
  | _, _, _, _, .nil, e => by simp at e
  | _, _, 0, _, .cons r _, e => by simp at e; subst e; exact ⟨_, rfl, r⟩
  | _, _, i + 1, d, .cons _ t, e => by
    obtain ⟨v, h1, h2⟩ := DvA.get (i := i) (d := d) t (by simpa using e)
    exact ⟨v, by simpa using h1, h2⟩
theorem DvA.set {v : V} {d : PyData} (r : Dv g F H v d) : ∀ {vs : List V} {ds : List PyData} (i : Nat), DvA g F H vs ds → DvA g F H (vs.set i v) (ds.set i d)
  | _, _, _, .nil => .nil
  | _, _, 0, .cons _ t => .cons r t
  | _, _, i + 1, .cons q t => .cons q (DvA.set r i t)
theorem DvA.take : ∀ {vs : List V} {ds : List PyData} (n : Nat), DvA g F H vs ds → DvA g F H (vs.take n) (ds.take n)
  | _, _, 0, _ => .nil
  | _, _, _ + 1, .nil => .nil
  | _, _, n + 1, .cons r t => .cons r (DvA.take n t)
theorem DvA.drop : ∀ {vs : List V} {ds : List PyData} (n : Nat), DvA g F H vs ds → DvA g F H (vs.drop n) (ds.drop n)
  | _, _, 0, r => r
  | _, _, _ + 1, .nil => .nil
  | _, _, n + 1, .cons _ t => DvA.drop n t
theorem DvA.eraseIdx : ∀ {vs : List V} {ds : List PyData} (i : Nat), DvA g F H vs ds → DvA g F H (vs.eraseIdx i) (ds.eraseIdx i)
  | _, _, _, .nil => .nil
  | _, _, 0, .cons _ t => t
  | _, _, i + 1, .cons r t => .cons r (DvA.eraseIdx i t)
theorem DvK.length : ∀ {vs : List (Key × V)} {ds : List (PyData × PyData)}, DvK g F H vs ds → vs.length = ds.length
  | _, _, .nil => rfl
  | _, _, .cons _ t => by rw [List.length_cons, List.length_cons, t.length]
theorem DvT.length : ∀ {vs : List (List Key × Addr × Value)} {ds : List (PyData × PyData)}, DvT g F H vs ds → vs.length = ds.length
  | _, _, .nil => rfl
  | _, _, .cons _ _ _ _ t => by rw [List.length_cons, List.length_cons, t.length]
theorem DvA.tail_ref {a : Addr} : True := trivial
end

/-! ### what may be read: the outermost list or dict need not be frozen -/
def WOk (g : Pw) (F : Addr → Prop) (H : Hp) (v : V) (d : PyData) : Prop :=
  Dv g F H v d ∨ (∃ a xs ds, v = .ref a ∧ Rd H a (.lst xs) ∧ DvA g F H xs ds ∧ d = .list ds) ∨
    (∃ a kvs ps, v = .ref a ∧ Rd H a (.dK kvs) ∧ DvK g F H kvs ps ∧ d = .dict ps) ∨ ∃ a kvs ps, v = .ref a ∧ Rd H a (TD g a kvs) ∧ DvT g F H kvs ps ∧ d = .dict ps
section
variable {g : Pw} {F : Addr → Prop} {H : Hp} {v : V}
theorem WOk.str {s : Str} (h : WOk g F H v (.str s)) : v = .str s := by
  rcases h with h | ⟨_, _, _, _, _, _, e⟩ | ⟨_, _, _, _, _, _, e⟩ | ⟨_, _, _, _, _, _, e⟩
  · cases h; rfl
  all_goals cases e
theorem WOk.int {i : Int} (h : WOk g F H v (.int i)) : v = .int i := by
  rcases h with h | ⟨_, _, _, _, _, _, e⟩ | ⟨_, _, _, _, _, _, e⟩ | ⟨_, _, _, _, _, _, e⟩
  · cases h; rfl
  all_goals cases e
theorem WOk.bool {b : Bool} (h : WOk g F H v (.bool b)) : v = .bl b := by
  rcases h with h | ⟨_, _, _, _, _, _, e⟩ | ⟨_, _, _, _, _, _, e⟩ | ⟨_, _, _, _, _, _, e⟩
  · cases h; rfl
  all_goals cases e
theorem WOk.none (h : WOk g F H v .none) : v = .non := by
  rcases h with h | ⟨_, _, _, _, _, _, e⟩ | ⟨_, _, _, _, _, _, e⟩ | ⟨_, _, _, _, _, _, e⟩
  · cases h; rfl
  all_goals cases e
theorem WOk.list {ds : List PyData} (h : WOk g F H v (.list ds)) : ∃ a xs, v = .ref a ∧ Rd H a (.lst xs) ∧ DvA g F H xs ds := by
  rcases h with h | ⟨a, xs, ds', e1, e2, e3, e⟩ | ⟨_, _, _, _, _, _, e⟩ | ⟨_, _, _, _, _, _, e⟩
  · cases h with
    | lst f r t => exact ⟨_, _, rfl, r, t⟩
  · cases e; exact ⟨a, xs, e1, e2, e3⟩
  all_goals cases e
theorem WOk.tuple {ds : List PyData} (h : WOk g F H v (.tuple ds)) : ∃ a xs, v = .ref a ∧ F a ∧ TupAt H a xs ∧ DvA g F H xs ds := by
  rcases h with h | ⟨_, _, _, _, _, _, e⟩ | ⟨_, _, _, _, _, _, e⟩ | ⟨_, _, _, _, _, _, e⟩
  · cases h with
    | tup f r t => exact ⟨_, _, rfl, f, r, t⟩
  all_goals cases e
theorem WOk.dict {ps : List (PyData × PyData)} (h : WOk g F H v (.dict ps)) : ∃ a, v = .ref a ∧ ((∃ kvs, Rd H a (.dK kvs) ∧ DvK g F H kvs ps) ∨ ∃ kvs, Rd H a (TD g a kvs) ∧ DvT g F H kvs ps) := by
  rcases h with h | ⟨_, _, _, _, _, _, e⟩ | ⟨a, kvs, ps', e1, e2, e3, e⟩ | ⟨a, kvs, ps', e1, e2, e3, e⟩
  · cases h with
    | dK f r t => exact ⟨_, rfl, .inl ⟨_, r, t⟩⟩
    | dT f r t => exact ⟨_, rfl, .inr ⟨_, r, t⟩⟩
  · cases e
  · cases e; exact ⟨a, e1, .inl ⟨kvs, e2, e3⟩⟩
  · cases e; exact ⟨a, e1, .inr ⟨kvs, e2, e3⟩⟩
end

mutual
theorem Dv.dp {K : PySem.W.Frag} {g : Pw} {F : Addr → Prop} {H : Hp} : ∀ {v : V} {d : PyData}, Dv g F H v d → d.plain = true → Dp K H v d
  | _, _, .non, _ => .non
  | _, _, .bl b, _ => .bl b
  | _, _, .int i, _ => .int i
  | _, _, .str x, _ => .str x
  | _, _, .lst _ r t, h => .lst (.inl r) (DvA.dp t (by simpa only [PyData.plain] using h))
  | _, _, .tup _ r t, h => .tup (.inl (.inr (let ⟨o, e, _⟩ := r; ⟨o, e⟩))) (DvA.dp t (by simpa only [PyData.plain] using h))
  | _, _, .dK _ _ _, h => by simp [PyData.plain] at h
  | _, _, .dT _ _ _, h => by simp [PyData.plain] at h
theorem DvA.dp {K : PySem.W.Frag} {g : Pw} {F : Addr → Prop} {H : Hp} : ∀ {v : List V} {d : List PyData}, DvA g F H v d → PyData.plainAll d = true → DpAll K H v d
  | _, _, .nil, _ => .nil
  | _, _, .cons r t, h => by
    simp only [PyData.plainAll, Bool.and_eq_true] at h
    exact .cons (Dv.dp r h.1) (DvA.dp t h.2)
end
theorem WOk.dp {K : PySem.W.Frag} {g : Pw} {F : Addr → Prop} {H : Hp} {v : V} {d : PyData} (h : WOk g F H v d) (p : d.plain = true) : Dp K H v d := by
  rcases h with h | ⟨a, xs, ds, e1, e2, e3, e⟩ | ⟨_, _, _, _, _, _, e⟩ | ⟨_, _, _, _, _, _, e⟩
  · exact h.dp p
  · subst e1 e
    exact .lst (.inl e2) (e3.dp (by simpa only [PyData.plain] using p))
  · subst e; simp [PyData.plain] at p
  · subst e; simp [PyData.plain] at p

/-! ### names, cells, exceptions -/
/-- the static part: the classes' addresses, the fields' names, the exceptions' fields -/
structure Stat where
  g : Pw
  ca : Nat → Addr
  fnm : Nat → Str
  xfn : Nat → Str
  ex : Option (Addr × Value × Option Addr) := none

def XOk (T : Stat) (F : Addr → Prop) (H : Hp) (cls : Value) (d : Option Addr) (c : Nat) (arg : Option PyData) : Prop :=
  cls = .ref (T.ca c) ∧ match arg with
    | none => d = none
    | some x => ∃ p v, d = some p ∧ F p ∧ H p = some (.xd [(T.xfn c, v)]) ∧ Dv T.g F H v x
/-- a name's value in a state of its own -/
def RvOk (T : Stat) (w : Wd) (H : Hp) (v : V) : RV → Prop
  | .dat d => Dv T.g w.F H v d
  | .ref n => ∃ a, v = .ref a ∧ w.cs[n]? = some a
  | .olst ds => ∃ a xs, v = .ref a ∧ H a = some (.lst xs) ∧ DvA T.g w.F H xs ds ∧ a ∉ w.cs ∧ ¬ w.F a
  | .odct ps => ∃ a, v = .ref a ∧ ((∃ kvs, H a = some (.dK kvs) ∧ DvK T.g w.F H kvs ps) ∨ ∃ kvs, H a = some (TD T.g a kvs) ∧ DvT T.g w.F H kvs ps) ∧ a ∉ w.cs ∧ ¬ w.F a
  | .xcp c arg => ∃ a cls d, v = .ref a ∧ T.ex = some (a, cls, d) ∧ XOk T w.F H cls d c arg
inductive FsOk (T : Stat) (w : Wd) (H : Hp) : List (Str × V) → List (Nat × RV) → Prop
  | nil : FsOk T w H [] []
  | dat {k : Nat} {v : V} {d : PyData} {fs : List (Str × V)} {gs : List (Nat × RV)} : Dv T.g w.F H v d → FsOk T w H fs gs → FsOk T w H ((T.fnm k, v) :: fs) ((k, .dat d) :: gs)
  | ref {k n : Nat} {a : Addr} {fs : List (Str × V)} {gs : List (Nat × RV)} : w.cs[n]? = some a → FsOk T w H fs gs → FsOk T w H ((T.fnm k, .ref a) :: fs) ((k, .ref n) :: gs)
def CellOk (T : Stat) (w : Wd) (H : Hp) (a : Addr) : Cell → Prop
  | .lst ds => ∃ xs, H a = some (.lst xs) ∧ DvA T.g w.F H xs ds
  | .dct ps => (∃ kvs, H a = some (.dK kvs) ∧ DvK T.g w.F H kvs ps) ∨ ∃ kvs, H a = some (TD T.g a kvs) ∧ DvT T.g w.F H kvs ps
  | .ins c fs => ∃ dx hfs, H a = some (.ins (T.ca c) dx hfs) ∧ FsOk T w H hfs fs ∧ hfs.length < 1000
  | .dead => True
def Cell.alive : Cell → Bool
  | .dead => false
  | _ => true
def RV.own : RV → Bool
  | .olst _ => true
  | .odct _ => true
  | _ => false
/-- the heap of cells -/
structure RelH (T : Stat) (w : Wd) (mh : MH) (H : Hp) : Prop where
  len : mh.length = w.cs.length
  nd : w.cs.Nodup
  thF : ∀ a, w.F a → ∃ o, H a = some o
  thC : ∀ a ∈ w.cs, ∃ o, H a = some o
  ok : ∀ (n : Nat) (c : Cell) (a : Addr), mh[n]? = some c → w.cs[n]? = some a → CellOk T w H a c
  live : ∀ (n : Nat) (c : Cell) (a : Addr), mh[n]? = some c → w.cs[n]? = some a → c.alive = true → ¬ w.F a
/-- from one state to a later one -/
structure Ext (w : Wd) (H : Hp) (w' : Wd) (H' : Hp) : Prop where
  F : ∀ a, w.F a → w'.F a
  F' : ∀ a, w'.F a → w.F a ∨ H a = none ∨ a ∈ w.cs
  cs : ∃ t, w'.cs = w.cs ++ t
  cs' : ∀ a ∈ w'.cs, a ∈ w.cs ∨ H a = none
  H : ∀ a o, H a = some o → (a ∈ w.cs → w.F a) → H' a = some o
theorem Ext.refl {w : Wd} {H : Hp} : Ext w H w H := ⟨fun _ h => h, fun _ h => .inl h, ⟨[], by simp⟩, fun _ h => .inl h, fun _ _ h _ => h⟩
theorem Ext.there {w w' : Wd} {H H' : Hp} (e : Ext w H w' H') {a : Addr} {o : HO} (h : H a = some o) (hc : a ∉ w.cs) : H' a = some o := e.H a o h fun z => absurd z hc
theorem Ext.trans {w w1 w2 : Wd} {H H1 H2 : Hp} (a : Ext w H w1 H1) (b : Ext w1 H1 w2 H2) : Ext w H w2 H2 where
  F := fun x h => b.F x (a.F x h)
  F' := fun x h => by
    rcases b.F' x h with h | h | h
    · exact a.F' x h
    · cases e : H x with
      | none => exact .inr (.inl rfl)
      | some o =>
        by_cases hx : x ∈ w.cs
        · exact .inr (.inr hx)
        · have := a.there e hx
          rw [h] at this; cases this
    · rcases a.cs' x h with h | h
      · exact .inr (.inr h)
      · exact .inr (.inl h)
  cs := by
    obtain ⟨t, e⟩ := a.cs
    obtain ⟨u, f⟩ := b.cs
    exact ⟨t ++ u, by rw [f, e, List.append_assoc]⟩
  cs' := fun x h => by
    rcases b.cs' x h with h | h
    · exact a.cs' x h
    · cases e : H x with
      | none => exact .inr rfl
      | some o =>
        by_cases hx : x ∈ w.cs
        · exact .inl hx
        · have := a.there e hx
          rw [h] at this; cases this
  H := fun x o h hf => b.H x o (a.H x o h hf) fun hx => by
    rcases a.cs' x hx with z | z
    · exact a.F x (hf z)
    · rw [h] at z; cases z
/-- the names: slots of the def and what they hold -/
structure RelE (T : Stat) (w : Wd) (env : MEnv) (σ : L2.St) (H : Hp) : Prop where
  len : σ.length = env.length
  ok : ∀ (i : Nat) (rv : RV), env[i]? = some (some rv) → ∃ v, σ[i]? = some (some v) ∧ RvOk T w H v rv
  own : ∀ (i j : Nat) (rv rv' : RV) (a : Addr), i ≠ j → env[i]? = some (some rv) → env[j]? = some (some rv') → rv.own = true → rv'.own = true → σ[i]? = some (some (.ref a)) → σ[j]? = some (some (.ref a)) → False
/-- where the def was entered -/
structure Base where
  w : Wd
  H : Hp
structure Rel (T : Stat) (B : Base) (w : Wd) (env : MEnv) (mh : MH) (σ : L2.St) (H : Hp) : Prop where
  h : RelH T w mh H
  e : RelE T w env σ H
  x : Ext B.w B.H w H
  own : ∀ (i : Nat) (rv : RV) (a : Addr), env[i]? = some (some rv) → rv.own = true → σ[i]? = some (some (.ref a)) → B.H a = none

section
variable {T : Stat} {w w' : Wd} {H H' : Hp} {v : V}
theorem Ext.dv {g : Pw} (x : Ext w H w' H') {d : PyData} (h : Dv g w.F H v d) : Dv g w'.F H' v d := h.mono x.F fun a o f e => x.H a o e fun _ => f
theorem Ext.dvA {g : Pw} (x : Ext w H w' H') {vs : List V} {d : List PyData} (h : DvA g w.F H vs d) : DvA g w'.F H' vs d := h.mono x.F fun a o f e => x.H a o e fun _ => f
theorem Ext.dvK {g : Pw} (x : Ext w H w' H') {vs : List (Key × V)} {d : List (PyData × PyData)} (h : DvK g w.F H vs d) : DvK g w'.F H' vs d := h.mono x.F fun a o f e => x.H a o e fun _ => f
theorem Ext.dvT {g : Pw} (x : Ext w H w' H') {vs : List (List Key × Addr × Value)} {d : List (PyData × PyData)} (h : DvT g w.F H vs d) : DvT g w'.F H' vs d := h.mono x.F fun a o f e => x.H a o e fun _ => f
theorem Ext.cell (x : Ext w H w' H') {n : Nat} {a : Addr} (h : w.cs[n]? = some a) : w'.cs[n]? = some a := by
  obtain ⟨t, e⟩ := x.cs
  rw [e, List.getElem?_append_left (List.getElem?_eq_some_iff.mp h).1]
  exact h
theorem Ext.nc (x : Ext w H w' H') {a : Addr} {o : HO} (h : H a = some o) (hc : a ∉ w.cs) : a ∉ w'.cs := fun z => by
  rcases x.cs' a z with z | z
  · exact hc z
  · rw [h] at z; cases z
theorem Ext.nF (x : Ext w H w' H') {a : Addr} {o : HO} (h : H a = some o) (hc : a ∉ w.cs) (hF : ¬ w.F a) : ¬ w'.F a := fun z => by
  rcases x.F' a z with z | z | z
  · exact hF z
  · rw [h] at z; cases z
  · exact hc z
theorem Ext.xok (x : Ext w H w' H') {cls : Value} {d : Option Addr} {c : Nat} {arg : Option PyData} (h : XOk T w.F H cls d c arg) : XOk T w'.F H' cls d c arg := by
  obtain ⟨h1, h2⟩ := h
  refine ⟨h1, ?_⟩
  cases arg with
  | none => exact h2
  | some y =>
    obtain ⟨p, v, e, f, hp, r⟩ := h2
    exact ⟨p, v, e, x.F p f, x.H p _ hp fun _ => f, x.dv r⟩
theorem Ext.rv (x : Ext w H w' H') {rv : RV} (h : RvOk T w H v rv) : RvOk T w' H' v rv := by
  cases rv with
  | dat d => exact x.dv h
  | ref n =>
    obtain ⟨a, e, h⟩ := h
    exact ⟨a, e, x.cell h⟩
  | olst ds =>
    obtain ⟨a, xs, e, h1, h2, h3, h4⟩ := h
    exact ⟨a, xs, e, x.there h1 h3, x.dvA h2, x.nc h1 h3, x.nF h1 h3 h4⟩
  | odct ps =>
    obtain ⟨a, e, h1, h3, h4⟩ := h
    rcases h1 with ⟨kvs, h1, h2⟩ | ⟨kvs, h1, h2⟩
    · exact ⟨a, e, .inl ⟨kvs, x.there h1 h3, x.dvK h2⟩, x.nc h1 h3, x.nF h1 h3 h4⟩
    · exact ⟨a, e, .inr ⟨kvs, x.there h1 h3, x.dvT h2⟩, x.nc h1 h3, x.nF h1 h3 h4⟩
  | xcp c arg =>
    obtain ⟨a, cls, d, e, e2, h⟩ := h
    exact ⟨a, cls, d, e, e2, x.xok h⟩
theorem Ext.fs (x : Ext w H w' H') : ∀ {fs : List (Str × V)} {gs : List (Nat × RV)}, FsOk T w H fs gs → FsOk T w' H' fs gs
  | _, _, .nil => .nil
  | _, _, .dat r t => .dat (x.dv r) (x.fs t)
  | _, _, .ref r t => .ref (x.cell r) (x.fs t)
theorem RelE.ext {env : MEnv} {σ : L2.St} (x : Ext w H w' H') (r : RelE T w env σ H) : RelE T w' env σ H' where
  len := r.len
  ok := fun i rv h => let ⟨v, e, q⟩ := r.ok i rv h; ⟨v, e, x.rv q⟩
  own := r.own
/-- what a value reads as -/
theorem RvOk.view {mh : MH} {rv : RV} {d : PyData} (R : RelH T w mh H) (h : RvOk T w H v rv) (e : view mh rv = some d) : WOk T.g w.F H v d := by
  cases rv with
  | dat d' => cases (Option.some.inj e); exact .inl h
  | ref n =>
    obtain ⟨a, rfl, hc⟩ := h
    unfold Mn.view at e
    cases hm : mh[n]? with
    | none => simp [hm] at e
    | some c =>
      have ok := R.ok n c a hm hc
      cases c with
      | lst ds =>
        simp [hm] at e; subst e
        obtain ⟨xs, h1, h2⟩ := ok
        exact .inr (.inl ⟨a, xs, ds, rfl, .inl h1, h2, rfl⟩)
      | dct ps =>
        simp [hm] at e; subst e
        rcases ok with ⟨kvs, h1, h2⟩ | ⟨kvs, h1, h2⟩
        · exact .inr (.inr (.inl ⟨a, kvs, ps, rfl, .inl h1, h2, rfl⟩))
        · exact .inr (.inr (.inr ⟨a, kvs, ps, rfl, .inl h1, h2, rfl⟩))
      | ins c fs => simp [hm] at e
      | dead => simp [hm] at e
  | olst ds =>
    cases (Option.some.inj e)
    obtain ⟨a, xs, e1, h1, h2, _, _⟩ := h
    exact .inr (.inl ⟨a, xs, ds, e1, .inl h1, h2, rfl⟩)
  | odct ps =>
    cases (Option.some.inj e)
    obtain ⟨a, e1, h1, _, _⟩ := h
    rcases h1 with ⟨kvs, h1, h2⟩ | ⟨kvs, h1, h2⟩
    · exact .inr (.inr (.inl ⟨a, kvs, ps, e1, .inl h1, h2, rfl⟩))
    · exact .inr (.inr (.inr ⟨a, kvs, ps, e1, .inl h1, h2, rfl⟩))
  | xcp c arg => cases e

/-! ### a new frozen object -/
def Wd.add (w : Wd) (p : Addr) : Wd := ⟨fun a => w.F a ∨ a = p, w.cs⟩
theorem Ext.alloc {p : Addr} {o : HO} (hp : H p = none) : Ext w H (w.add p) (upd H p o) where
  F := fun _ h => .inl h
  F' := fun a h => by
    rcases h with h | h
    · exact .inl h
    · subst h; exact .inr (.inl hp)
  cs := ⟨[], by simp [Wd.add]⟩
  cs' := fun _ h => .inl h
  H := fun a o' h _ => by rw [upd_ne (ne_of_none h hp)]; exact h
/-- .. that is not tracked as frozen -/
theorem Ext.lay {p : Addr} {o : HO} (hp : H p = none) : Ext w H w (upd H p o) where
  F := fun _ h => h
  F' := fun _ h => .inl h
  cs := ⟨[], by simp⟩
  cs' := fun _ h => .inl h
  H := fun a o' h _ => by rw [upd_ne (ne_of_none h hp)]; exact h
theorem CellOk.ext {a : Addr} {c : Cell} (x : Ext w H w' H') (k : ∀ o, H a = some o → H' a = some o) (h : CellOk T w H a c) : CellOk T w' H' a c := by
  cases c with
  | lst ds =>
    obtain ⟨xs, h1, h2⟩ := h
    exact ⟨xs, k _ h1, x.dvA h2⟩
  | dct ps =>
    rcases h with ⟨kvs, h1, h2⟩ | ⟨kvs, h1, h2⟩
    · exact .inl ⟨kvs, k _ h1, x.dvK h2⟩
    · exact .inr ⟨kvs, k _ h1, x.dvT h2⟩
  | ins c fs =>
    obtain ⟨dx, hfs, h1, h2, h3⟩ := h
    exact ⟨dx, hfs, k _ h1, x.fs h2, h3⟩
  | dead => trivial
theorem RelH.alloc {mh : MH} {p : Addr} {o : HO} (R : RelH T w mh H) (hp : H p = none) : RelH T (w.add p) mh (upd H p o) where
  len := R.len
  nd := R.nd
  thF := fun a h => by
    by_cases e : a = p
    · subst e; exact ⟨o, upd_same⟩
    · rcases h with h | h
      · obtain ⟨o', q⟩ := R.thF a h
        exact ⟨o', by rw [upd_ne e]; exact q⟩
      · exact absurd h e
  thC := fun a h => by
    obtain ⟨o', q⟩ := R.thC a h
    exact ⟨o', by rw [upd_ne (ne_of_none q hp)]; exact q⟩
  ok := fun n c a h1 h2 => (R.ok n c a h1 h2).ext (Ext.alloc hp) fun o' q => by rw [upd_ne (ne_of_none q hp)]; exact q
  live := fun n c a h1 h2 h3 h => by
    rcases h with h | h
    · exact R.live n c a h1 h2 h3 h
    · subst h
      obtain ⟨o', q⟩ := R.thC a (List.mem_of_getElem? h2)
      rw [hp] at q; cases q
theorem RelH.lay {mh : MH} {p : Addr} {o : HO} (R : RelH T w mh H) (hp : H p = none) : RelH T w mh (upd H p o) where
  len := R.len
  nd := R.nd
  thF := fun a h => by
    obtain ⟨o', q⟩ := R.thF a h
    exact ⟨o', by rw [upd_ne (ne_of_none q hp)]; exact q⟩
  thC := fun a h => by
    obtain ⟨o', q⟩ := R.thC a h
    exact ⟨o', by rw [upd_ne (ne_of_none q hp)]; exact q⟩
  ok := fun n c a h1 h2 => (R.ok n c a h1 h2).ext (Ext.lay hp) fun o' q => by rw [upd_ne (ne_of_none q hp)]; exact q
  live := R.live
theorem Rel.ext {B : Base} {env : MEnv} {mh mh' : MH} {σ : L2.St} (R : Rel T B w env mh σ H) (x : Ext w H w' H') (h : RelH T w' mh' H') : Rel T B w' env mh' σ H' where
  h := h
  e := R.e.ext x
  x := R.x.trans x
  own := R.own
theorem Rel.alloc {B : Base} {env : MEnv} {mh : MH} {σ : L2.St} {p : Addr} {o : HO} (R : Rel T B w env mh σ H) (hp : H p = none) : Rel T B (w.add p) env mh σ (upd H p o) :=
  R.ext (Ext.alloc hp) (R.h.alloc hp)
theorem Rel.lay {B : Base} {env : MEnv} {mh : MH} {σ : L2.St} {p : Addr} {o : HO} (R : Rel T B w env mh σ H) (hp : H p = none) : Rel T B w env mh σ (upd H p o) :=
  R.ext (Ext.lay hp) (R.h.lay hp)
theorem ne_F {F : Addr → Prop} {a b : Addr} (h : F b) (n : ¬ F a) : b ≠ a := fun e => n (by rw [← e]; exact h)
/-- a thing that is neither a cell nor frozen is changed -/
theorem Ext.over {a : Addr} {o : HO} (x : Ext w H w' H') (hn : H a = none) : Ext w H w' (upd H' a o) where
  F := x.F
  F' := x.F'
  cs := x.cs
  cs' := x.cs'
  H := fun b o' h k => by rw [upd_ne (ne_of_none h hn)]; exact x.H b o' h k
theorem Dv.over {g : Pw} {F : Addr → Prop} {a : Addr} {o : HO} {d : PyData} (h : Dv g F H v d) (hF : ¬ F a) : Dv g F (upd H a o) v d := h.mono (fun _ h => h) fun b u f e => by rw [upd_ne (ne_F f hF)]; exact e
theorem DvA.over {g : Pw} {F : Addr → Prop} {a : Addr} {o : HO} {vs : List V} {d : List PyData} (h : DvA g F H vs d) (hF : ¬ F a) : DvA g F (upd H a o) vs d := h.mono (fun _ h => h) fun b u f e => by rw [upd_ne (ne_F f hF)]; exact e
theorem DvK.over {g : Pw} {F : Addr → Prop} {a : Addr} {o : HO} {vs : List (Key × V)} {d : List (PyData × PyData)} (h : DvK g F H vs d) (hF : ¬ F a) : DvK g F (upd H a o) vs d := h.mono (fun _ h => h) fun b u f e => by rw [upd_ne (ne_F f hF)]; exact e
theorem DvT.over {g : Pw} {F : Addr → Prop} {a : Addr} {o : HO} {vs : List (List Key × Addr × Value)} {d : List (PyData × PyData)} (h : DvT g F H vs d) (hF : ¬ F a) : DvT g F (upd H a o) vs d := h.mono (fun _ h => h) fun b u f e => by rw [upd_ne (ne_F f hF)]; exact e
theorem FsOk.over {a : Addr} {o : HO} (hF : ¬ w.F a) : ∀ {fs : List (Str × V)} {gs : List (Nat × RV)}, FsOk T w H fs gs → FsOk T w (upd H a o) fs gs
  | _, _, .nil => .nil
  | _, _, .dat r t => .dat (r.over hF) (t.over hF)
  | _, _, .ref r t => .ref r (t.over hF)
theorem CellOk.over {a b : Addr} {o : HO} {c : Cell} (h : CellOk T w H b c) (hF : ¬ w.F a) (hb : b ≠ a) : CellOk T w (upd H a o) b c := by
  cases c with
  | lst ds => obtain ⟨xs, h1, h2⟩ := h; exact ⟨xs, by rw [upd_ne hb]; exact h1, h2.over hF⟩
  | dct ps =>
    rcases h with ⟨kvs, h1, h2⟩ | ⟨kvs, h1, h2⟩
    · exact .inl ⟨kvs, by rw [upd_ne hb]; exact h1, h2.over hF⟩
    · exact .inr ⟨kvs, by rw [upd_ne hb]; exact h1, h2.over hF⟩
  | ins c fs => obtain ⟨dx, hfs, h1, h2, h3⟩ := h; exact ⟨dx, hfs, by rw [upd_ne hb]; exact h1, h2.over hF, h3⟩
  | dead => trivial
theorem RelH.over {mh : MH} {a : Addr} {o : HO} (R : RelH T w mh H) (hc : a ∉ w.cs) (hF : ¬ w.F a) : RelH T w mh (upd H a o) where
  len := R.len
  nd := R.nd
  thF := fun b h => by
    obtain ⟨o', q⟩ := R.thF b h
    exact ⟨o', by rw [upd_ne (ne_F h hF)]; exact q⟩
  thC := fun b h => by
    obtain ⟨o', q⟩ := R.thC b h
    exact ⟨o', by rw [upd_ne (ne_F (F := (· ∈ w.cs)) h hc)]; exact q⟩
  ok := fun n c b h1 h2 => (R.ok n c b h1 h2).over hF (ne_F (F := (· ∈ w.cs)) (List.mem_of_getElem? h2) hc)
  live := R.live
/-- a cell is written -/
theorem RelH.write {mh : MH} {n : Nat} {a : Addr} {o : HO} {c : Cell} (R : RelH T w mh H) (hc : w.cs[n]? = some a) (hF : ¬ w.F a) (new : CellOk T w (upd H a o) a c) : RelH T w (mh.set n c) (upd H a o) where
  len := by rw [List.length_set]; exact R.len
  nd := R.nd
  thF := fun b h => by
    obtain ⟨o', q⟩ := R.thF b h
    exact ⟨o', by rw [upd_ne (ne_F h hF)]; exact q⟩
  thC := fun b h => by
    by_cases e : b = a
    · exact ⟨o, by rw [e]; exact upd_same⟩
    · obtain ⟨o', q⟩ := R.thC b h
      exact ⟨o', by rw [upd_ne e]; exact q⟩
  ok := fun m c' b h1 h2 => by
    by_cases e : n = m
    · subst e
      rw [hc] at h2; cases h2
      by_cases hn : n < mh.length
      · rw [List.getElem?_set_self hn] at h1; cases h1; exact new
      · rw [List.getElem?_eq_none (by simpa using hn)] at h1; cases h1
    · rw [List.getElem?_set_ne e] at h1
      refine (R.ok m c' b h1 h2).over hF fun z => e ?_
      subst z
      exact (List.getElem?_inj (List.getElem?_eq_some_iff.mp hc).1 R.nd).mp (hc.trans h2.symm)
  live := fun m c' b h1 h2 h3 => by
    by_cases e : n = m
    · subst e
      rw [hc] at h2; cases h2
      exact hF
    · rw [List.getElem?_set_ne e] at h1
      exact R.live m c' b h1 h2 h3
theorem Ext.write {a : Addr} {o : HO} (hc : a ∈ w.cs) (hF : ¬ w.F a) : Ext w H w (upd H a o) where
  F := fun _ h => h
  F' := fun _ h => .inl h
  cs := ⟨[], by simp⟩
  cs' := fun _ h => .inl h
  H := fun b o' h k => by
    by_cases e : b = a
    · subst e; exact absurd (k hc) hF
    · rw [upd_ne e]; exact h
end
end Mn
end
section
set_option linter.all false
set_option autoImplicit false
set_option maxRecDepth 100000
/-! Mini: the judgements over the hand layer, their composition. -/
namespace Mn
open PySem PySem.Spec PyProof.Rows L2

theorem PE.weak {X : Cx} {e : Expr} {t t' : TE} (h : PE X e t) (k : ∀ σ H Q, t' σ H Q → t σ H Q) : PE X e t' := ⟨fun pins s σ H Q I q => h.run pins s σ H Q I (k σ H Q q)⟩
theorem PT.weak {X : Cx} {e : Expr} {t t' : TT} (h : PT X e t) (k : ∀ σ H Q, t' σ H Q → t σ H Q) : PT X e t' := ⟨fun pins s σ H Q I q => h.run pins s σ H Q I (k σ H Q q)⟩
theorem PW.weak {X : Cx} {e : Expr} {t t' : TT} (h : PW X e t) (k : ∀ σ H Q, t' σ H Q → t σ H Q) : PW X e t' := ⟨fun wh pins s σ H Q I q => h.run wh pins s σ H Q I (k σ H Q q)⟩
theorem PA.weak {X : Cx} {e : List Expr} {t t' : TA} (h : PA X e t) (k : ∀ σ H Q, t' σ H Q → t σ H Q) : PA X e t' := ⟨fun pos pins s σ H Q I q => h.run pos pins s σ H Q I (k σ H Q q)⟩
theorem PS.weak {X : Cx} {e : Stmt} {t t' : TS} (h : PS X e t) (k : ∀ D σ H, t' D σ H → t D σ H) : PS X e t' := ⟨fun pins s σ H D I q => h.run pins s σ H D I (k D σ H q)⟩
theorem PSs.weak {X : Cx} {e : List Stmt} {t t' : TS} (h : PSs X e t) (k : ∀ D σ H, t' D σ H → t D σ H) : PSs X e t' := ⟨fun pins s σ H D I q => h.run pins s σ H D I (k D σ H q)⟩
theorem PI.weak {X : Cx} {tg e : Expr} {t t' : TI} (h : PI X tg e t) (k : ∀ σ H R, t' σ H R → t σ H R) : PI X tg e t' := ⟨fun pins s σ H R I q => h.run pins s σ H R I (k σ H R q)⟩

/-- what follows an evaluation: its result by rel, or an exception -/
def OG (T : Stat) {α β : Type} (rel : Wd → Hp → β → α → Prop) (W : XK) (w : Wd) (H : Hp) (o : Out α) (Q : β → Hp → Prop) : Prop := match o with
  | .ok a mh' => ∀ w' b H', Ext w H w' H' → RelH T w' mh' H' → rel w' H' b a → Q b H'
  | .exc x mh' => ∀ w' cls d H', Ext w H w' H' → RelH T w' mh' H' → XOk T w'.F H' cls d x.c x.arg → W cls d H'
  | .stuck => False
section
variable {T : Stat} {α β γ δ : Type} {rel : Wd → Hp → β → α → Prop} {rel' : Wd → Hp → δ → γ → Prop} {W : XK} {w w1 : Wd} {H H1 : Hp}
theorem OG.mono {o : Out α} {Q Q' : β → Hp → Prop} (h : OG T rel W w H o Q) (k : ∀ b H', Q b H' → Q' b H') : OG T rel W w H o Q' := by
  cases o with
  | ok a mh => exact fun w' b H' x r q => k _ _ (h w' b H' x r q)
  | exc x mh => exact h
  | stuck => exact h
theorem OG.later {o : Out α} {Q : β → Hp → Prop} (x : Ext w H w1 H1) (h : OG T rel W w H o Q) : OG T rel W w1 H1 o Q := by
  cases o with
  | ok a mh => exact fun w' b H' y r q => h w' b H' (x.trans y) r q
  | exc e mh => exact fun w' c d H' y r q => h w' c d H' (x.trans y) r q
  | stuck => exact h
theorem OG.bind {o : Out α} {k : α → MH → Out γ} {Q : δ → Hp → Prop} (h : OG T rel' W w H (o.bind k) Q) :
    OG T rel W w H o (fun b H1 => ∃ w1 a mh1, o = .ok a mh1 ∧ Ext w H w1 H1 ∧ RelH T w1 mh1 H1 ∧ rel w1 H1 b a ∧ OG T rel' W w1 H1 (k a mh1) Q) := by
  cases o with
  | ok a mh => exact fun w' b H' x r q => ⟨w', a, mh, rfl, x, r, q, OG.later x h⟩
  | exc x mh => exact h
  | stuck => exact h
/-- the result is at hand -/
theorem OG.now {a : α} {mh : MH} {Q : β → Hp → Prop} (h : OG T rel W w H (.ok a mh) Q) (R : RelH T w mh H) {b : β} (r : rel w H b a) : Q b H := h w b H .refl R r
end

/-- a new object, or none -/
inductive NewD (g : Pw) (F : Addr → Prop) (H : Hp) (v : V) (r : PyData) : Hp → Prop
  | same : Dv g F H v r → NewD g F H v r H
  | new (p : Addr) (o : HO) : H p = none → Dv g (fun a => F a ∨ a = p) (upd H p o) v r → NewD g F H v r (upd H p o)
theorem OG.newD {T : Stat} {W : XK} {w : Wd} {H H' : Hp} {d : PyData} {mh : MH} {Q : VK} {v : V} (h : OG T (RvOk T) W w H (.ok (.dat d) mh) Q) (R : RelH T w mh H) (n : NewD T.g w.F H v d H') : Q v H' := by
  cases n with
  | same r => exact h w v H .refl R r
  | new p o hp r => exact h (w.add p) v _ (Ext.alloc hp) (R.alloc hp) r
theorem OG.val {T : Stat} {W : XK} {w : Wd} {H : Hp} {d : PyData} {mh : MH} {Q : VK} {v : V} (h : OG T (RvOk T) W w H (.ok (.dat d) mh) Q) (R : RelH T w mh H) (n : Dv T.g w.F H v d) : Q v H := h w v H .refl R n

/-- what the judgements stand over: where the def was entered, what is wished of exceptions -/
structure Jd where
  T : Stat
  B : Base
  W : WX
def TEm (J : Jd) (m : MEnv → MH → Out RV) : TE := fun σ H Q => ∃ w env mh, Rel J.T J.B w env mh σ H ∧ OG J.T (RvOk J.T) (fun c d H' => J.W c d σ H') w H (m env mh) Q
def relB (_ : Wd) (_ : Hp) (b b' : Bool) : Prop := b = b'
def TTm (J : Jd) (m : MEnv → MH → Out Bool) : TT := fun σ H Q => ∃ w env mh, Rel J.T J.B w env mh σ H ∧ OG J.T relB (fun c d H' => J.W c d σ H') w H (m env mh) Q
inductive RvsOk (T : Stat) (w : Wd) (H : Hp) : List V → List RV → Prop
  | nil : RvsOk T w H [] []
  | cons {v : V} {vs : List V} {r : RV} {rs : List RV} : RvOk T w H v r → RvsOk T w H vs rs → RvsOk T w H (v :: vs) (r :: rs)
def relDs (g : Pw) (w : Wd) (H : Hp) (vs : List V) (ds : List PyData) : Prop := DvA g w.F H vs ds
def TVm (J : Jd) (m : MEnv → MH → Out (List RV)) : TA := fun σ H Q => ∃ w env mh, Rel J.T J.B w env mh σ H ∧ OG J.T (RvsOk J.T) (fun c d H' => J.W c d σ H') w H (m env mh) Q
def TDm (J : Jd) (m : MEnv → MH → Out (List PyData)) : TA := fun σ H Q => ∃ w env mh, Rel J.T J.B w env mh σ H ∧ OG J.T (relDs J.T.g) (fun c d H' => J.W c d σ H') w H (m env mh) Q
theorem Ext.rvs {T : Stat} {w w' : Wd} {H H' : Hp} (x : Ext w H w' H') : ∀ {vs : List V} {rs : List RV}, RvsOk T w H vs rs → RvsOk T w' H' vs rs
  | _, _, .nil => .nil
  | _, _, .cons r t => .cons (x.rv r) (Ext.rvs x t)

section
variable {X : Cx} {J : Jd} {C : CallF}
/-! ### names, constants -/
theorem me_var {i : Nat} {x : Str} {pos : Pos} (hN : X.N[i]? = some x) (hv : Vis X.env.scope x) (hd : (x == ("__debug__" : Str)) = false) (hcd : (x == ("__classdict__" : Str)) = false) : PE X (.Name x pos) (TEm J (evE C (.var i))) := by
  refine PE.weak (pe_var hN hv hd hcd) fun σ H Q ⟨w, env, mh, R, o⟩ => ?_
  change OG _ _ _ _ _ (match env[i]? with | some (some rv) => Out.ok rv mh | _ => .stuck) Q at o
  split at o
  · rename_i rv e
    obtain ⟨v, e', r⟩ := R.e.ok i rv e
    exact ⟨v, e', o.now R.h r⟩
  · exact o.elim
theorem me_none {j pos} : PE X (.Constant .none j pos) (TEm J (evE C (.cst .none))) := PE.weak pe_non fun σ H Q ⟨w, env, mh, R, o⟩ => o.val R.h .non
theorem me_bool {b j pos} : PE X (.Constant (.bool b) j pos) (TEm J (evE C (.cst (.bool b)))) := PE.weak pe_bl fun σ H Q ⟨w, env, mh, R, o⟩ => o.val R.h (.bl b)
theorem me_int {i j pos} : PE X (.Constant (.int i) j pos) (TEm J (evE C (.cst (.int i)))) := PE.weak pe_int fun σ H Q ⟨w, env, mh, R, o⟩ => o.val R.h (.int i)
theorem me_str {x j pos} : PE X (.Constant (.str x) j pos) (TEm J (evE C (.cst (.str x)))) := PE.weak pe_str fun σ H Q ⟨w, env, mh, R, o⟩ => o.val R.h (.str x)
end
end Mn
end
section
set_option linter.all false
set_option autoImplicit false
set_option maxRecDepth 100000
/-! Mini: operations by data. -/
namespace Mn
open PySem PySem.Spec PyProof.Rows L2

/-! ### keys -/
theorem keyEq1 : ∀ k j : Key, keyEq (keyD k) (keyD j) = decide (k = j)
  | .inl i, .inl j => by simp [keyD, keyEq, key1Eq]
  | .inr i, .inr j => by simp [keyD, keyEq, key1Eq]
  | .inl i, .inr j => by simp [keyD, keyEq, key1Eq]
  | .inr i, .inl j => by simp [keyD, keyEq, key1Eq]
theorem key1Eq1 (k j : Key) : key1Eq (keyD k) (keyD j) = decide (k = j) := by
  cases k <;> cases j <;> simp [keyD, key1Eq]
theorem keysEq1 : ∀ ks js : List Key, keysEq (ks.map keyD) (js.map keyD) = decide (ks = js)
  | [], [] => rfl
  | [], _ :: _ => by simp [keysEq]
  | _ :: _, [] => by simp [keysEq]
  | k :: ks, j :: js => by
    rw [List.map_cons, List.map_cons, keysEq, key1Eq1, keysEq1 ks js]
    by_cases h : k = j <;> by_cases h2 : ks = js <;> simp [h, h2]
theorem keyEqT (ks js : List Key) : keyEq (.tuple (ks.map keyD)) (.tuple (js.map keyD)) = decide (ks = js) := by
  rw [keyEq, keysEq1]
theorem keyEq1T (k : Key) (js : List PyData) : keyEq (keyD k) (.tuple js) = false := by cases k <;> rfl
theorem keyEqT1 (k : Key) (js : List PyData) : keyEq (.tuple js) (keyD k) = false := by cases k <;> rfl
theorem isKey1_of {x : PyData} (h : isKey1 x = true) : ∃ k, x = keyD k := by
  cases x with
  | int i => exact ⟨.inl i, rfl⟩
  | str s => exact ⟨.inr s, rfl⟩
  | _ => cases h
theorem allKey1 : ∀ {l : List PyData}, l.all isKey1 = true → ∃ ks, l = List.map keyD ks
  | [], _ => ⟨[], rfl⟩
  | x :: l, h => by
    rw [List.all_cons, Bool.and_eq_true] at h
    obtain ⟨k, e⟩ := isKey1_of h.1
    obtain ⟨ks, e2⟩ := allKey1 h.2
    exact ⟨k :: ks, by rw [e, e2]; rfl⟩
theorem isKeyT_of {x : PyData} (h : isKeyT x = true) : ∃ ks : List Key, x = .tuple (ks.map keyD) := by
  cases x with
  | tuple l =>
    obtain ⟨ks, e⟩ := allKey1 (l := l) h
    exact ⟨ks, by rw [e]⟩
  | _ => cases h
theorem dvK_keys {g : Pw} {F : Addr → Prop} {H : Hp} : ∀ {kvs : List (Key × V)} {ps : List (PyData × PyData)}, DvK g F H kvs ps → ps.all (fun p => isKeyT p.1) = true → kvs = [] ∧ ps = []
  | _, _, .nil, _ => ⟨rfl, rfl⟩
  | _, _, .cons (k := k) _ _, h => by
    rw [List.all_cons, Bool.and_eq_true] at h
    cases k <;> exact absurd h.1 (by simp [keyD, isKeyT])
theorem dvT_keys {g : Pw} {F : Addr → Prop} {H : Hp} : ∀ {kvs : List (List Key × Addr × Value)} {ps : List (PyData × PyData)}, DvT g F H kvs ps → ps.all (fun p => isKey1 p.1) = true → kvs = [] ∧ ps = []
  | _, _, .nil, _ => ⟨rfl, rfl⟩
  | _, _, .cons (k := k) _ _ _ _ _, h => by
    rw [List.all_cons, Bool.and_eq_true] at h
    exact absurd h.1 (by simp [isKey1])
theorem dvK_get {g : Pw} {F : Addr → Prop} {H : Hp} (k : Key) : ∀ {kvs : List (Key × V)} {ps : List (PyData × PyData)}, DvK g F H kvs ps →
    (dget ps (keyD k) = none ∧ valV kvs k = none) ∨ ∃ v d, dget ps (keyD k) = some d ∧ valV kvs k = some v ∧ Dv g F H v d
  | _, _, .nil => .inl ⟨rfl, rfl⟩
  | _, _, .cons (k := j) (v := v) (d := d) r t => by
    rw [dget, keyEq1]
    by_cases e : j = k
    · exact .inr ⟨v, d, by simp [e], valV_pos (p := (j, v)) e, r⟩
    · rcases dvK_get k t with ⟨h1, h2⟩ | ⟨v', d', h1, h2, h3⟩
      · exact .inl ⟨by simp [e, h1], (valV_neg (p := (j, v)) e).trans h2⟩
      · exact .inr ⟨v', d', by simp [e, h1], (valV_neg (p := (j, v)) e).trans h2, h3⟩
/-- the entry of a key -/
def atT (xs : List (List Key × Addr × Value)) (k : List Key) : Option (Addr × Value) := atKey xs k
theorem dvT_get {g : Pw} {F : Addr → Prop} {H : Hp} (k : List Key) : ∀ {kvs : List (List Key × Addr × Value)} {ps : List (PyData × PyData)}, DvT g F H kvs ps →
    (dget ps (.tuple (k.map keyD)) = none ∧ (atKey kvs k).map (·.2) = none) ∨ ∃ u v d, dget ps (.tuple (k.map keyD)) = some d ∧ (atKey kvs k).map (·.2) = some u ∧ RelV v u ∧ Dv g F H v d
  | _, _, .nil => .inl ⟨rfl, rfl⟩
  | _, _, .cons (k := j) (b := b) (u := u) (v := v) (d := d) _ _ q r t => by
    rw [dget, keyEqT]
    by_cases e : j = k
    · exact .inr ⟨u, v, d, by simp [e], by simp [atKey, List.find?_cons, e], q, r⟩
    · have e2 : ∀ l, atKey ((j, b, u) :: l) k = atKey l k := fun l => by simp [atKey, List.find?_cons, e]
      rw [e2]
      rcases dvT_get k t with ⟨h1, h2⟩ | ⟨u', v', d', h1, h2, h3⟩
      · exact .inl ⟨by simp [e, h1], h2⟩
      · exact .inr ⟨u', v', d', by simp [e, h1], h2, h3⟩
theorem dvK_any {g : Pw} {F : Addr → Prop} {H : Hp} (k : Key) : ∀ {kvs : List (Key × V)} {ps : List (PyData × PyData)}, DvK g F H kvs ps →
    (ps.any fun p => keyEq p.1 (keyD k)) = kvs.any fun kv => decide (kv.1 = k)
  | _, _, .nil => rfl
  | _, _, .cons (k := j) r t => by rw [List.any_cons, List.any_cons, keyEq1, dvK_any k t]
theorem dvK_map {g : Pw} {F : Addr → Prop} {H : Hp} (k : Key) {v : V} {d : PyData} (q : Dv g F H v d) : ∀ {kvs : List (Key × V)} {ps : List (PyData × PyData)}, DvK g F H kvs ps →
    DvK g F H (kvs.map fun kv => if kv.1 = k then (kv.1, v) else kv) (ps.map fun p => if keyEq p.1 (keyD k) then (p.1, d) else p)
  | _, _, .nil => .nil
  | _, _, .cons (k := j) r t => by
    rw [List.map_cons, List.map_cons, keyEq1]
    by_cases e : j = k
    · rw [if_pos e, decide_eq_true e]; exact .cons q (dvK_map k q t)
    · rw [if_neg e, decide_eq_false e]; exact .cons r (dvK_map k q t)
theorem dvK_app {g : Pw} {F : Addr → Prop} {H : Hp} {k : Key} {v : V} {d : PyData} (q : Dv g F H v d) : ∀ {kvs : List (Key × V)} {ps : List (PyData × PyData)}, DvK g F H kvs ps → DvK g F H (kvs ++ [(k, v)]) (ps ++ [(keyD k, d)])
  | _, _, .nil => .cons q .nil
  | _, _, .cons r t => .cons r (dvK_app q t)
theorem dvK_put {g : Pw} {F : Addr → Prop} {H : Hp} (k : Key) {v : V} {d : PyData} (q : Dv g F H v d) {kvs : List (Key × V)} {ps : List (PyData × PyData)} (h : DvK g F H kvs ps) : DvK g F H (putK kvs k v) (dput ps (keyD k) d) := by
  unfold putK dput
  rw [dvK_any k h]
  split
  · exact dvK_map k q h
  · exact dvK_app q h
theorem keyV {g : Pw} {F : Addr → Prop} {H : Hp} {v : V} {k : Key} (h : WOk g F H v (keyD k)) : v = kV k := by
  cases k with
  | inl i => exact h.int
  | inr s => exact h.str
theorem keysV {g : Pw} {F : Addr → Prop} {H : Hp} : ∀ {xs : List V} {ks : List Key}, DvA g F H xs (ks.map keyD) → xs = ks.map kV
  | [], [], _ => rfl
  | [], k :: ks, h => by cases h
  | _ :: _, [], h => by cases h
  | x :: xs, k :: ks, h => by
    rw [List.map_cons] at h ⊢
    cases h with
    | cons r t => rw [keysV t, keyV (.inl r)]
theorem keyTV {g : Pw} {F : Addr → Prop} {H : Hp} {v : V} {ks : List Key} (h : WOk g F H v (.tuple (ks.map keyD))) : ∃ b, v = .ref b ∧ F b ∧ TupAt H b (ks.map kV) := by
  obtain ⟨a, xs, e, f, hH, r⟩ := h.tuple
  exact ⟨a, e, f, by rw [← keysV r]; exact hH⟩

/-! ### dicts with tuple keys; an empty dict is one of either kind -/
section
variable {X : Cx} {g : Pw} {pins : List (Addr × Obj)} {σ : L2.St} {F : Addr → Prop} {H : Hp} {s : Shared} {a : Addr}
theorem keyT_of (I : Inv X pins σ H s) {b : Addr} {ks : List Key} (e : TupAt H b (ks.map kV)) : (tupleKind (mixKind X.prog X.w)).is s.heap ks b := by
  obtain ⟨ob, e, _⟩ := e
  obtain ⟨_, _, its, r, o, h1, h2, n, h3⟩ := I.hok b _ e
  exact ⟨o, its.toArray, n, h1, h2, h3, by simpa using items_are r⟩
theorem td_is (I : Inv X pins σ H s) : ∀ {kvs : List (List Key × Addr × Value)} {ps : List (PyData × PyData)}, DvT g F H kvs ps → ∀ x ∈ kvs, (tupleKind (mixKind X.prog X.w)).is s.heap x.1 x.2.1
  | _, _, .nil, x, hx => nomatch hx
  | _, _, .cons f t q r rest, x, hx => by
    rcases List.mem_cons.mp hx with e | hx
    · subst e; exact keyT_of I t
    · exact td_is I rest x hx
theorem td_rd {kvs : List (List Key × Addr × Value)} {ps : List (PyData × PyData)} (hg : g = ⟨X.prog, X.w⟩) (I : Inv X pins σ H s) (e : Rd H a (TD g a kvs)) (t : DvT g F H kvs ps) :
    kvs.length ≤ sizeLine ∧ (a == sysModules) = false ∧ s.heap.DictOfH (tupleKind (mixKind X.prog X.w)) a kvs := by
  subst hg
  obtain ⟨⟨h1, h2, h3, o, es, ep, h4, h5, h6, h7⟩, _⟩ := e.ok I.hok
  exact ⟨h1, h2, o, es, ep, h4, h5, h6, h7, td_is I t, h3⟩
theorem rdT_of (I : Inv X pins σ H s) (e : Rd H a (.dK [])) : (a == sysModules) = false ∧ s.heap.DictOfH (tupleKind (mixKind X.prog X.w)) a [] := by
  obtain ⟨z, y, vs, r, o, es, ep, e, ex, hd, _, c, _⟩ := e.ok I.hok
  cases r
  refine ⟨y, o, es, ep, e, ex, hd, ?_, fun x hx => absurd hx (by simp), by simp⟩
  generalize es.toList = l at c
  cases c
  rfl
theorem rdK_of (hg : g = ⟨X.prog, X.w⟩) (I : Inv X pins σ H s) (e : Rd H a (TD g a [])) : (a == sysModules) = false ∧ s.heap.DictOf (mixKind X.prog X.w) a [] := by
  obtain ⟨h1, h2, o, es, ep, e, ex, hd, c, _, _⟩ := td_rd (F := fun _ => False) hg I e .nil
  have c' : es = #[] := by simpa using c
  subst c'
  exact ⟨h2, o, _, ep, e, ex, hd, fun x hx => absurd hx (by simp), .nil, by simp⟩
/-- what a dict holds at a key -/
def DGetE (g : Pw) (F : Addr → Prop) (H : Hp) (a : Addr) (y : V) (r : Option V) : Prop :=
  (∃ kvs k, Rd H a (.dK kvs) ∧ y = kV k ∧ r = valV kvs k) ∨
  (∃ kvs ps k b, Rd H a (TD g a kvs) ∧ DvT g F H kvs ps ∧ y = .ref b ∧ TupAt H b (List.map kV k) ∧ RelO r ((atKey kvs k).map (·.2))) ∨
  (r = none ∧ ((Rd H a (.dK []) ∧ ∃ (k : List Key) (b : Addr), y = .ref b ∧ TupAt H b (k.map kV)) ∨ (Rd H a (TD g a []) ∧ ∃ k, y = kV k)))
variable {A : Around} {E : Value → Shared → Prop} {y d : V} {u r : Value} {o : Option V}
theorem DGetE.typeIs (hg : g = ⟨X.prog, X.w⟩) (I : Inv X pins σ H s) (q : DGetE g F H a y o) : s.TypeIs (.ref a) "dict" := by
  rcases q with ⟨kvs, k, e, ey, l⟩ | ⟨kvs, ps, k, b, e, t, ey, eb, l⟩ | ⟨rfl, ⟨e, k, b, ey, eb⟩ | ⟨e, k, ey⟩⟩
  · obtain ⟨_, _, _, _, dd⟩ := dk_rd I.hok e
    exact dd.typeIs
  · exact (td_rd hg I e t).2.2.typeIs
  · exact (rdT_of I e).2.typeIs
  · exact (rdK_of hg I e).2.typeIs
theorem de_in {Q : Value → Shared → Prop} (hg : g = ⟨X.prog, X.w⟩) (hu : A.units + 1 < cLine) (I : Inv X pins σ H s) (q : DGetE g F H a y o) (ry : RelV y u) (h : ∀ s', Inv X pins σ H s' → Q (.bool o.isSome) s') :
    wpAny (model X.prog X.w) A (compareOp .In u (.ref a)) Q E s := by
  rcases q with ⟨kvs, k, e, ey, l⟩ | ⟨kvs, ps, k, b, e, t, ey, eb, l⟩ | ⟨rfl, ⟨e, k, b, ey, eb⟩ | ⟨e, k, ey⟩⟩
  · exact d_in hu I (.inl ⟨kvs, k, e, ey, l⟩) ry h
  · subst ey
    cases (show u = Value.ref b from ry)
    obtain ⟨_, hd, dd⟩ := td_rd hg I e t
    refine wpAny_in_heap (tupleKind_room_in1 hu) (keyT_of I eb) hd dd ?_
    have q := l.isSome_eq
    rw [Option.isSome_map] at q
    rw [← q]
    exact h _ (I.tok _)
  · subst ey
    cases (show u = Value.ref b from ry)
    obtain ⟨hd, dd⟩ := rdT_of I e
    exact wpAny_in_heap (tupleKind_room_in1 hu) (keyT_of I eb) hd dd (h _ (I.tok _))
  · subst ey
    obtain ⟨hd, dd⟩ := rdK_of hg I e
    exact wpAny_in_of (kV_is ry) hd dd.mapOf (h _ (I.tok _))
theorem de_notIn {Q : Value → Shared → Prop} (hg : g = ⟨X.prog, X.w⟩) (hu : A.units + 1 < cLine) (I : Inv X pins σ H s) (q : DGetE g F H a y o) (ry : RelV y u) (h : ∀ s', Inv X pins σ H s' → Q (.bool (!o.isSome)) s') :
    wpAny (model X.prog X.w) A (compareOp .NotIn u (.ref a)) Q E s := by
  rcases q with ⟨kvs, k, e, ey, l⟩ | ⟨kvs, ps, k, b, e, t, ey, eb, l⟩ | ⟨rfl, ⟨e, k, b, ey, eb⟩ | ⟨e, k, ey⟩⟩
  · exact d_notIn hu I (.inl ⟨kvs, k, e, ey, l⟩) ry h
  · subst ey
    cases (show u = Value.ref b from ry)
    obtain ⟨_, hd, dd⟩ := td_rd hg I e t
    refine wpAny_notIn_heap (tupleKind_room_in1 hu) (keyT_of I eb) hd dd ?_
    have q := l.isSome_eq
    rw [Option.isSome_map] at q
    rw [← q]
    exact h _ (I.tok _)
  · subst ey
    cases (show u = Value.ref b from ry)
    obtain ⟨hd, dd⟩ := rdT_of I e
    exact wpAny_notIn_heap (tupleKind_room_in1 hu) (keyT_of I eb) hd dd (h _ (I.tok _))
  · subst ey
    obtain ⟨hd, dd⟩ := rdK_of hg I e
    exact wpAny_notIn_of (kV_is ry) hd dd.mapOf (h _ (I.tok _))
theorem de_getItem {v : V} {Q : Value → Shared → Prop} (hg : g = ⟨X.prog, X.w⟩) (hu : A.units + 1 < cLine) (I : Inv X pins σ H s) (q : DGetE g F H a y (some v)) (ry : RelV y u) (h : ∀ w' s', Inv X pins σ H s' → RelV v w' → Q w' s') :
    wpAny (model X.prog X.w) A (getItem (.ref a) u) Q E s := by
  rcases q with ⟨kvs, k, e, ey, l⟩ | ⟨kvs, ps, k, b, e, t, ey, eb, l⟩ | ⟨z, _⟩
  · exact d_getItem hu I (.inl ⟨kvs, k, e, ey, l⟩) ry h
  · subst ey
    cases (show u = Value.ref b from ry)
    obtain ⟨_, hd, dd⟩ := td_rd hg I e t
    obtain ⟨w', hw, rw'⟩ := l.some_of
    obtain ⟨p, hp, hp2⟩ := Option.map_eq_some_iff.mp hw
    refine wpAny_getItem_heap (tupleKind_room_in1 hu) (keyT_of I eb) dd hp ?_
    rw [hp2]
    exact h w' _ (I.tok _) rw'
  · cases z
theorem de_get2 {Q : Value → Shared → Prop} (hg : g = ⟨X.prog, X.w⟩) (hu : A.units + 1 < cLine) (I : Inv X pins σ H s) (q : DGetE g F H a y o) (ry : RelV y u) (rd : RelV d r) (h : ∀ w' s', Inv X pins σ H s' → RelV (o.getD d) w' → Q w' s') :
    wpAny (model X.prog X.w) A (call (.builtin "dict.get") [.ref a, u, r]) Q E s := by
  rcases q with ⟨kvs, k, e, ey, l⟩ | ⟨kvs, ps, k, b, e, t, ey, eb, l⟩ | ⟨rfl, ⟨e, k, b, ey, eb⟩ | ⟨e, k, ey⟩⟩
  · exact d_get2 hu I (.inl ⟨kvs, k, e, ey, l⟩) ry rd h
  · subst ey
    cases (show u = Value.ref b from ry)
    obtain ⟨_, hd, dd⟩ := td_rd hg I e t
    refine call_meetsIn PySem.F.slot_dict_get dd.typeIs PySem.F.entry_dict_get (PySem.F.args_dict_get_3 _ _ _) (meetsH_dict_get_default (tupleKind (mixKind X.prog X.w)) a b hd r) ⟨tupleKind_room_in1 hu, k, kvs, keyT_of I eb, dd, h _ _ (I.tok _) ?_⟩
    exact l.getD rd
  · subst ey
    cases (show u = Value.ref b from ry)
    obtain ⟨hd, dd⟩ := rdT_of I e
    refine call_meetsIn PySem.F.slot_dict_get dd.typeIs PySem.F.entry_dict_get (PySem.F.args_dict_get_3 _ _ _) (meetsH_dict_get_default (tupleKind (mixKind X.prog X.w)) a b hd r) ⟨tupleKind_room_in1 hu, k, [], keyT_of I eb, dd, h _ _ (I.tok _) ?_⟩
    exact rd
  · subst ey
    obtain ⟨hd, dd⟩ := rdK_of hg I e
    refine call_meetsIn PySem.F.slot_dict_get dd.typeIs PySem.F.entry_dict_get (PySem.F.args_dict_get_3 _ _ _) (meets_dict_get_default (mixKind X.prog X.w) a (kV_is ry) hd r) ⟨_, dd.mapOf, h _ _ (I.tok _) ?_⟩
    exact rd
end
/-- by data -/
theorem dgetE_of {g : Pw} {F : Addr → Prop} {H : Hp} {x y : V} {ps : List (PyData × PyData)} {k : PyData} (hx : WOk g F H x (.dict ps)) (hy : WOk g F H y k) (hk : kindOk ps k = true) :
    ∃ a o, x = .ref a ∧ DGetE g F H a y o ∧ ((o = none ∧ dget ps k = none) ∨ ∃ v d, o = some v ∧ dget ps k = some d ∧ Dv g F H v d) := by
  obtain ⟨a, e, h⟩ := hx.dict
  refine ⟨a, ?_⟩
  unfold kindOk at hk
  rw [Bool.or_eq_true, Bool.and_eq_true, Bool.and_eq_true] at hk
  rcases hk with ⟨h1, h2⟩ | ⟨h1, h2⟩
  · obtain ⟨kk, rfl⟩ := isKey1_of h1
    have ey := keyV hy
    rcases h with ⟨kvs, r, q⟩ | ⟨kvs, r, q⟩
    · refine ⟨valV kvs kk, e, .inl ⟨kvs, kk, r, ey, rfl⟩, ?_⟩
      rcases dvK_get kk q with ⟨h3, h4⟩ | ⟨v, d, h3, h4, h5⟩
      · exact .inl ⟨h4, h3⟩
      · exact .inr ⟨v, d, h4, h3, h5⟩
    · obtain ⟨rfl, rfl⟩ := dvT_keys q h2
      exact ⟨none, e, .inr (.inr ⟨rfl, .inr ⟨r, kk, ey⟩⟩), .inl ⟨rfl, rfl⟩⟩
  · obtain ⟨kk, rfl⟩ := isKeyT_of h1
    obtain ⟨b, ey, fb, eb⟩ := keyTV hy
    rcases h with ⟨kvs, r, q⟩ | ⟨kvs, r, q⟩
    · obtain ⟨rfl, rfl⟩ := dvK_keys q h2
      exact ⟨none, e, .inr (.inr ⟨rfl, .inl ⟨r, kk, b, ey, eb⟩⟩), .inl ⟨rfl, rfl⟩⟩
    · rcases dvT_get kk q with ⟨h3, h4⟩ | ⟨u, v, d, h3, h4, h5, h6⟩
      · exact ⟨none, e, .inr (.inl ⟨kvs, ps, kk, b, r, q, ey, eb, by rw [h4]; trivial⟩), .inl ⟨rfl, h3⟩⟩
      · exact ⟨some v, e, .inr (.inl ⟨kvs, ps, kk, b, r, q, ey, eb, by rw [h4]; exact h5⟩), .inr ⟨v, d, rfl, h3, h6⟩⟩

/-! ### comparisons -/
def rCmpM (g : Pw) (op : CmpOp) : R2 := fun x y H Q => ∃ F d e b, WOk g F H x d ∧ WOk g F H y e ∧ cmpD op d e = some b ∧ Q (.bl b) H
section
variable {X : Cx} {g : Pw} {pins : List (Addr × Obj)} {σ : L2.St} {H : Hp} {s : Shared} {F : Addr → Prop} {x y : V} {u v : Value} {d e : PyData} {E : Value → Shared → Prop}
theorem rds (I : Inv X pins σ H s) (h : WOk g F H x d) (p : d.plain = true) (r : RelV x v) : ∃ as, Reads s.heap v d as := (h.dp (K := X.K) p).reads I d x v r
theorem depOk_iff {d : PyData} : depOk d = true ↔ d.plain = true ∧ d.depth ≤ 64 := by unfold depOk; rw [Bool.and_eq_true, decide_eq_true_iff]
theorem eq_two {b : Bool} (hu : X.A.units + 200 < cLine) (I : Inv X pins σ H s) (hx : WOk g F H x d) (hy : WOk g F H y e) (rx : RelV x v) (ry : RelV y u) (h : eqD d e = some b) {Q : Value → Shared → Prop} :
    (Q (.bool b) s → wpAny (model X.prog X.w) X.A (compareOp .Eq v u) Q E s) ∧ (Q (.bool !b) s → wpAny (model X.prog X.w) X.A (compareOp .NotEq v u) Q E s) := by
  unfold eqD at h
  split at h
  · rename_i c
    rw [Bool.and_eq_true, depOk_iff, depOk_iff] at c
    cases h
    obtain ⟨as, r1⟩ := rds I hx c.1.1 rx
    obtain ⟨bs, r2⟩ := rds I hy c.2.1 ry
    exact ⟨fun q => SeqAt.eq_plain r1 r2 c.1.1 c.2.1 (by have := c.1.2; omega) q, fun q => SeqAt.ne_plain r1 r2 c.1.1 c.2.1 (by have := c.1.2; omega) q⟩
  · cases h
theorem nn_ne {d : PyData} (h : nn d = true) : d ≠ .none := by cases d <;> simp [nn] at h ⊢
theorem lt_four {b : Bool} (hu : X.A.units + 200 < cLine) (I : Inv X pins σ H s) (hx : WOk g F H x d) (hy : WOk g F H y e) (rx : RelV x v) (ry : RelV y u) (h : ltD d e = some b) {Q : Value → Shared → Prop} :
    (Q (.bool b) s → wpAny (model X.prog X.w) X.A (compareOp .Lt v u) Q E s) ∧ (Q (.bool b) s → wpAny (model X.prog X.w) X.A (compareOp .Gt u v) Q E s) ∧
    (Q (.bool !b) s → wpAny (model X.prog X.w) X.A (compareOp .GtE v u) Q E s) ∧ (Q (.bool !b) s → wpAny (model X.prog X.w) X.A (compareOp .LtE u v) Q E s) := by
  unfold ltD at h
  split at h
  · rename_i c
    rw [Bool.and_eq_true, Bool.and_eq_true, Bool.and_eq_true, depOk_iff, depOk_iff] at c
    obtain ⟨⟨⟨c1, c2⟩, c3⟩, c4⟩ := c
    cases h
    obtain ⟨as, r1⟩ := rds I hx c1.1 rx
    obtain ⟨bs, r2⟩ := rds I hy c2.1 ry
    have h1 := c1.2
    have h2 := c2.2
    have c5 : PySem.W.alike e d = true := by rw [PySem.W.alike_comm]; exact c3
    have c6 := PySem.W.ne_none_both c3 (nn_ne c4)
    exact ⟨PySem.W.lt_data r1 r2 c3 (nn_ne c4) (by omega), PySem.W.gt_data r2 r1 c5 c6 (by omega), PySem.W.ge_data r1 r2 c3 (nn_ne c4) (by omega), PySem.W.le_data r2 r1 c5 c6 (by omega)⟩
  · cases h
theorem in_two {b : Bool} (hg : g = ⟨X.prog, X.w⟩) (hu : X.A.units + 200 < cLine) (I : Inv X pins σ H s) (hx : WOk g F H x d) (hy : WOk g F H y e) (rx : RelV x v) (ry : RelV y u) (h : inD d e = some b) {Q : Value → Shared → Prop} :
    ((∀ s', Inv X pins σ H s' → Q (.bool b) s') → wpAny (model X.prog X.w) X.A (compareOp .In v u) Q X.xe s) ∧ ((∀ s', Inv X pins σ H s' → Q (.bool !b) s') → wpAny (model X.prog X.w) X.A (compareOp .NotIn v u) Q X.xe s) := by
  cases e with
  | list xs =>
    change (if depOk d && depOk (.list xs) then some (xs.any fun z => PyData.eqv z d) else none) = some b at h
    split at h
    · rename_i c
      rw [Bool.and_eq_true, depOk_iff, depOk_iff] at c
      cases h
      obtain ⟨as, r1⟩ := rds I hx c.1.1 rx
      obtain ⟨bs, r2⟩ := rds I hy c.2.1 ry
      have p := c.2.1
      rw [PyData.plain] at p
      exact ⟨fun q => SeqAt.in_list_data r2 r1 p c.1.1 (by have := c.1.2; omega) (q s I), fun q => SeqAt.notIn_list_data r2 r1 p c.1.1 (by have := c.1.2; omega) (q s I)⟩
    · cases h
  | tuple xs =>
    change (if depOk d && depOk (.tuple xs) then some (xs.any fun z => PyData.eqv z d) else none) = some b at h
    split at h
    · rename_i c
      rw [Bool.and_eq_true, depOk_iff, depOk_iff] at c
      cases h
      obtain ⟨as, r1⟩ := rds I hx c.1.1 rx
      obtain ⟨bs, r2⟩ := rds I hy c.2.1 ry
      have p := c.2.1
      rw [PyData.plain] at p
      exact ⟨fun q => SeqAt.in_tuple_data r2 r1 p c.1.1 (by have := c.1.2; omega) (q s I), fun q => SeqAt.notIn_tuple_data r2 r1 p c.1.1 (by have := c.1.2; omega) (q s I)⟩
    · cases h
  | str z =>
    cases d with
    | str i =>
      have h' : inStr i z = b := Option.some.inj h
      subst h'
      have e1 := hx.str
      have e2 := hy.str
      subst e1 e2
      refine ⟨fun q => ?_, fun q => ?_⟩
      · unfold inStr at q
        split at q
        · refine thn (op_in_sign pins s σ H _ _ v u (fun w' H' => w' = .bl (decide (_ ∈ z.cps.toList)) ∧ H' = H) I rx ry ⟨_, _, rfl, rfl, rfl, rfl⟩) ?_
          rintro w' s' ⟨_, _, I', r', rfl, rfl⟩
          cases r'
          exact q s' I'
        · refine thn (op_in_str pins s σ H _ _ v u (fun w' H' => w' = .bl (!(Builtin.Str.occurrences z i 0 z.length 1).isEmpty) ∧ H' = H) I rx ry ⟨_, _, rfl, rfl, rfl, rfl⟩) ?_
          rintro w' s' ⟨_, _, I', r', rfl, rfl⟩
          cases r'
          exact q s' I'
      · unfold inStr at q
        split at q
        · refine thn (op_notIn_sign pins s σ H _ _ v u (fun w' H' => w' = .bl (!decide (_ ∈ z.cps.toList)) ∧ H' = H) I rx ry ⟨_, _, rfl, rfl, rfl, rfl⟩) ?_
          rintro w' s' ⟨_, _, I', r', rfl, rfl⟩
          cases r'
          exact q s' I'
        · refine thn (op_notin_str pins s σ H _ _ v u (fun w' H' => w' = .bl (!(!(Builtin.Str.occurrences z i 0 z.length 1).isEmpty)) ∧ H' = H) I rx ry ⟨_, _, rfl, rfl, rfl, rfl⟩) ?_
          rintro w' s' ⟨_, _, I', r', rfl, rfl⟩
          cases r'
          exact q s' I'
    | _ => cases h
  | dict kvs =>
    change (if kindOk kvs d then some (dget kvs d).isSome else none) = some b at h
    split at h
    · rename_i c
      cases h
      obtain ⟨a, o, rfl, ge, ho⟩ := dgetE_of hy hx c
      cases (show u = Value.ref a from ry)
      have eo : (dget kvs d).isSome = o.isSome := by
        rcases ho with ⟨h1, h2⟩ | ⟨_, _, h1, h2, _⟩ <;> rw [h1, h2] <;> rfl
      rw [eo]
      exact ⟨fun q => de_in hg (by omega) I ge rx q, fun q => de_notIn hg (by omega) I ge rx q⟩
    · cases h
  | _ => cases h
theorem is_two {b : Bool} (I : Inv X pins σ H s) (hx : WOk g F H x d) (hy : WOk g F H y e) (rx : RelV x v) (ry : RelV y u) (h : isD d e = some b) {Q : VK} :
    (Q (.bl b) H → wpAny (model X.prog X.w) X.A (compareOp .Is v u) (EP X pins σ Q) X.xe s) ∧ (Q (.bl !b) H → wpAny (model X.prog X.w) X.A (compareOp .IsNot v u) (EP X pins σ Q) X.xe s) := by
  have non : ∀ {b : Bool}, e = .none → decide (x = .non) = b → (Q (.bl b) H → wpAny (model X.prog X.w) X.A (compareOp .Is v u) (EP X pins σ Q) X.xe s) ∧ (Q (.bl !b) H → wpAny (model X.prog X.w) X.A (compareOp .IsNot v u) (EP X pins σ Q) X.xe s) := by
    intro b e1 e2
    subst e1 e2
    have ey := hy.none
    exact ⟨fun q => op_isN pins s σ H x y v u Q I rx ry ⟨ey, q⟩, fun q => op_notN pins s σ H x y v u Q I rx ry ⟨ey, q⟩⟩
  unfold isD at h
  split at h
  · cases h; exact non rfl (by rw [hx.none]; rfl)
  · cases h; exact non rfl (by rw [hx.bool]; rfl)
  · cases h; exact non rfl (by rw [hx.int]; rfl)
  · cases h; exact non rfl (by rw [hx.str]; rfl)
  · cases h; exact non rfl (by obtain ⟨_, _, z, _⟩ := hx.list; rw [z]; rfl)
  · cases h; exact non rfl (by obtain ⟨_, _, z, _⟩ := hx.tuple; rw [z]; rfl)
  · cases h; exact non rfl (by obtain ⟨_, z, _⟩ := hx.dict; rw [z]; rfl)
  · cases h
    have e1 := hx.bool
    have e2 := hy.bool
    exact ⟨fun q => op_isBl pins s σ H x y v u Q I rx ry ⟨_, _, e1, e2, q⟩, fun q => op_notBl pins s σ H x y v u Q I rx ry ⟨_, _, e1, e2, q⟩⟩
  · cases h
theorem map_not {o : Option Bool} {b : Bool} (h : o.map not = some b) : o = some !b := by
  cases o with
  | none => cases h
  | some c => cases h; simp
theorem op_cmpM (hg : g = ⟨X.prog, X.w⟩) (hu : X.A.units + 200 < cLine) (op : CmpOp) : OpR X (compareOp op) (rCmpM g op) := by
  intro pins s σ H x y v u Q I rx ry h
  obtain ⟨F, d, e, b, hx, hy, h, q⟩ := h
  have ep : EP X pins σ Q (.bool b) s := ⟨.bl b, H, I, rfl, q⟩
  have nn2 : ∀ {c : Bool}, c = !b → EP X pins σ Q (.bool !c) s := fun {c} z => by subst z; rw [Bool.not_not]; exact ep
  cases op with
  | Eq => exact (eq_two hu I hx hy rx ry h).1 ep
  | NotEq => exact (eq_two hu I hx hy rx ry (map_not h)).2 (nn2 rfl)
  | Lt => exact (lt_four hu I hx hy rx ry h).1 ep
  | Gt => exact (lt_four hu I hy hx ry rx h).2.1 ep
  | LtE => exact (lt_four hu I hy hx ry rx (map_not h)).2.2.2 (nn2 rfl)
  | GtE => exact (lt_four hu I hx hy rx ry (map_not h)).2.2.1 (nn2 rfl)
  | In => exact (in_two hg hu I hx hy rx ry h).1 fun s' I' => ⟨.bl b, H, I', rfl, q⟩
  | NotIn => exact (in_two hg hu I hx hy rx ry (map_not h)).2 fun s' I' => ⟨.bl _, H, I', rfl, by rw [Bool.not_not]; exact q⟩
  | Is => exact (is_two I hx hy rx ry h).1 q
  | IsNot => exact (is_two I hx hy rx ry (map_not h)).2 (by rw [Bool.not_not]; exact q)
end
end Mn
end
section
set_option linter.all false
set_option autoImplicit false
set_option maxRecDepth 100000
/-! Mini: arithmetic, subscripts, slices, truth, built-in functions by data. -/
namespace Mn
open PySem PySem.Spec PyProof.Rows L2

/-! ### new objects -/
section
variable {g : Pw} {F : Addr → Prop} {H : Hp} {p : Addr} {o : HO}
theorem Dv.new {v : V} {d : PyData} (hp : H p = none) (h : Dv g F H v d) : Dv g (fun a => F a ∨ a = p) (upd H p o) v d := h.mono (fun _ => .inl) fun a u _ e => by rw [upd_ne (ne_of_none e hp)]; exact e
theorem DvA.new {v : List V} {d : List PyData} (hp : H p = none) (h : DvA g F H v d) : DvA g (fun a => F a ∨ a = p) (upd H p o) v d := h.mono (fun _ => .inl) fun a u _ e => by rw [upd_ne (ne_of_none e hp)]; exact e
theorem DvK.new {v : List (Key × V)} {d : List (PyData × PyData)} (hp : H p = none) (h : DvK g F H v d) : DvK g (fun a => F a ∨ a = p) (upd H p o) v d := h.mono (fun _ => .inl) fun a u _ e => by rw [upd_ne (ne_of_none e hp)]; exact e
theorem DvT.new {v : List (List Key × Addr × Value)} {d : List (PyData × PyData)} (hp : H p = none) (h : DvT g F H v d) : DvT g (fun a => F a ∨ a = p) (upd H p o) v d := h.mono (fun _ => .inl) fun a u _ e => by rw [upd_ne (ne_of_none e hp)]; exact e
theorem NewD.tup {xs : List V} {ds : List PyData} {ob : Obj} (hp : H p = none) (ho : ob.dict = none) (h : DvA g F H xs ds) : NewD g F H (.ref p) (.tuple ds) (upd H p (.frz ob (.tup xs))) := .new p _ hp (.tup (.inr rfl) ⟨ob, upd_same, ho⟩ (h.new hp))
theorem TupAt.sq {K : PySem.W.Frag} {a : Addr} {xs : List V} (h : TupAt H a xs) : SqT K H a xs := let ⟨o, e, _⟩ := h; .inl (.inr ⟨o, e⟩)
theorem NewD.lst {xs : List V} {ds : List PyData} (hp : H p = none) (h : DvA g F H xs ds) : NewD g F H (.ref p) (.list ds) (upd H p (.lst xs)) := .new p _ hp (.lst (.inr rfl) (.inl upd_same) (h.new hp))
theorem NewD.int (i : Int) : NewD g F H (.int i) (.int i) H := .same (.int i)
theorem NewD.str (i : Str) : NewD g F H (.str i) (.str i) H := .same (.str i)
theorem NewD.bool (i : Bool) : NewD g F H (.bl i) (.bool i) H := .same (.bl i)
end
theorem big_le {n : Nat} (h : big n = true) : n ≤ sizeLine := by
  have h := of_decide_eq_true h
  rw [sizeLine_eq]; exact h
theorem small64_iff {i : Int} (h : small64 i = true) : -(2 ^ 64) < i ∧ i < 2 ^ 64 := of_decide_eq_true h

section
variable {X : Cx}
theorem op_catL : OpR X (binaryOp .Add) (fun x y H Q => ∃ l b xs zs, x = .ref l ∧ y = .ref b ∧ Rd H l (.lst xs) ∧ Rd H b (.lst zs) ∧ xs.length + zs.length ≤ sizeLine ∧ ∀ p, H p = none → Q (.ref p) (upd H p (.lst (xs ++ zs)))) := by
  intro pins s σ H x y v u Q I rx ry h
  obtain ⟨l, b, xs, zs, rfl, rfl, hH, hB, hz, q⟩ := h
  cases rx
  cases ry
  obtain ⟨z, its, n, r, e⟩ := hH.ok I.hok
  obtain ⟨z2, its2, n2, r2, e2⟩ := hB.ok I.hok
  have hl := r.length
  have hl2 := r2.length
  refine PySem.P.add_list e e2 ?_ (by rw [List.size_toArray, List.size_toArray]; omega)
  have ea : its.toArray ++ its2.toArray = (its ++ its2).toArray := by simp
  rw [ea]
  exact ⟨.ref _, _, I.lnew (t' := s.toks) (r.append r2) (by rw [List.length_append]; omega), rfl, q _ I.fresh⟩

theorem op_catTF : OpR X (binaryOp .Add) (fun x y H Q => ∃ a b xs ys, x = .ref a ∧ y = .ref b ∧ SqT X.K H a xs ∧ SqT X.K H b ys ∧ xs.length + ys.length ≤ sizeLine ∧
    (xs = [] → Q (.ref b) H) ∧ (xs ≠ [] → ys = [] → Q (.ref a) H) ∧ (xs ≠ [] → ys ≠ [] → ∀ p o, H p = none → o.dict = none → Q (.ref p) (upd H p (.frz o (.tup (xs ++ ys)))))) := by
  intro pins s σ H x y v u Q I rx ry h
  obtain ⟨a, b, xs, ys, rfl, rfl, ha, hb, hz, q0, q1, q2⟩ := h
  by_cases hx : xs = []
  · subst hx
    cases rx
    cases ry
    obtain ⟨its, r1, p1, _⟩ := I.tuple ha
    obtain ⟨its2, r2, p2, _⟩ := I.tuple hb
    cases r1
    exact cat_tup0 p1 p2 ⟨.ref b, H, I, rfl, q0 rfl⟩
  · cases rx
    cases ry
    obtain ⟨its, r1, p1, _⟩ := I.tuple ha
    obtain ⟨its2, r2, p2, _⟩ := I.tuple hb
    refine HT.cat_tup p1 p2 (fun z => hx (r1.nil_iff.mp z)) (fun z => ⟨.ref a, H, I, rfl, q1 hx (r2.nil_iff.mp z)⟩) (fun z => ?_) (by rw [← r1.length, ← r2.length]; exact hz)
    refine ⟨.ref s.heap.objs.size, _, I.laid (t' := s.toks) (o := .frz _ (.tup (xs ++ ys))) (fun b ob q => Heap.get?_push_of_some _ q) (Nat.le_refl _) ⟨Heap.get?_push_size _ rfl, ?_⟩, rfl, q2 hx (fun w => z (r2.nil_iff.mpr w)) _ _ (I.hok.fresh (Nat.le_refl _)) rfl⟩
    exact ⟨by rw [List.length_append]; exact hz, _, r1.append r2, IsTup.new _ _⟩
theorem sl_tupF : SlR X (fun x lo hi H Q => ∃ a xs, x = .ref a ∧ SqT X.K H a xs ∧
    (HT.sIx xs.length 0 lo = 0 ∧ HT.sIx xs.length xs.length hi = xs.length → Q (.ref a) H) ∧ (¬ (HT.sIx xs.length 0 lo = 0 ∧ HT.sIx xs.length xs.length hi = xs.length) → ∀ p o, H p = none → o.dict = none → Q (.ref p) (upd H p (.frz o (.tup (cutV xs lo hi)))))) := by
  intro pins s σ H x v vl vu lo hi sl Q I rx hs pl pu h
  obtain ⟨a, xs, rfl, hx, q1, q2⟩ := h
  cases rx
  obtain ⟨its, r, ht, hz⟩ := I.tuple hx
  have hlen : its.toArray.size = xs.length := by rw [List.size_toArray]; exact r.length.symm
  refine ⟨"tuple", _, PyProof.Rows.slot_tuple_getitem.lookup, ht.typeIs, ?_⟩
  by_cases hw : HT.sIx xs.length 0 lo = 0 ∧ HT.sIx xs.length xs.length hi = xs.length
  · exact getItem_tuple_whole ht hs pl pu (by rw [hlen]; exact hw) ⟨.ref a, H, I, rfl, q1 hw⟩
  · refine HT.getItem_tuple_cut ht hs pl pu (by rw [hlen]; exact hw) ?_ (by rw [hlen]; exact hz)
    rw [hlen]
    refine ⟨.ref s.heap.objs.size, _, I.laid (t' := s.toks) (o := .frz _ (.tup (cutV xs lo hi))) (fun b ob q => Heap.get?_push_of_some _ q) (Nat.le_refl _) ⟨Heap.get?_push_size _ rfl, ?_⟩, rfl, q2 hw _ _ (I.hok.fresh (Nat.le_refl _)) rfl⟩
    exact ⟨Nat.le_trans (cutV_length xs lo hi) hz, _, (r.drop (HT.sIx xs.length 0 lo)).take (HT.sIx xs.length xs.length hi - HT.sIx xs.length 0 lo), IsTup.new _ _⟩
theorem call_tuple_F : CallR X (.type "tuple") (fun xs H Q => ∃ p ys, xs = [.ref p] ∧ ((SqL X.K H p ys ∧ ∀ l o, H l = none → o.dict = none → Q (.ref l) (upd H l (.frz o (.tup ys)))) ∨ (SqT X.K H p ys ∧ Q (.ref p) H))) := by
  intro pins s σ H xs us Q I r h
  obtain ⟨p, ys, rfl, h⟩ := h
  obtain ⟨u, rfl, rx⟩ := vals1 r
  cases rx
  rcases h with ⟨hq, q⟩ | ⟨hq, q⟩
  · obtain ⟨its, r', pl, hz⟩ := I.list hq
    have hlen := r'.length
    refine call_tuple_list pl.isList (fun h' kp => ?_) (by simp only [List.size_toArray] <;> omega)
    have I1 : Inv X pins σ H { s with heap := h' } := I.kept (t' := s.toks) kp
    have I2 := I1.laid (a := h'.objs.size) (o := .frz { cls := .type "tuple", data := .seq its.toArray } (.tup ys)) (h' := h'.push { cls := .type "tuple", data := .seq its.toArray }) (t' := s.toks) (fun b o e => Heap.get?_push_of_some _ e) (Nat.le_refl _)
      ⟨Heap.get?_push_size _ rfl, hz, its, r', IsTup.new _ _⟩
    exact ⟨.ref h'.objs.size, _, I2, rfl, q _ _ (I1.hok.fresh (Nat.le_refl _)) rfl⟩
  · obtain ⟨its, r', pl, hz⟩ := I.tuple hq
    exact call_tuple_same pl ⟨.ref p, H, I, rfl, q⟩
theorem pe_tupF {es : List Expr} {t : TA} {pos : Pos} {x1} (h : PA X es t) : PE X (.Tuple es x1 pos) (fun σ H Q => t σ H fun xs H1 => xs.length ≤ sizeLine ∧ ∀ p o, H1 p = none → o.dict = none → Q (.ref p) (upd H1 p (.frz o (.tup xs)))) := by
  refine ⟨fun pins s σ H Q I hq => ?_⟩
  refine wpAny_Tuple_spliced (thn (h.run pos pins s σ H _ I hq) fun us s1 ⟨xs, H1, I1, r, z, q⟩ => ⟨by rw [← r.length]; exact z, ?_⟩)
  have hf : H1 s1.heap.objs.size = none := I1.hok.fresh (Nat.le_refl _)
  refine ⟨.ref s1.heap.objs.size, _, I1.laid (t' := s1.toks) (o := .frz _ (.tup xs)) (fun b u e => Heap.get?_push_of_some _ e) (Nat.le_refl _) ⟨Heap.get?_push_size _ rfl, ?_⟩, rfl, q _ _ hf rfl⟩
  exact ⟨z, us, r, ⟨_, Heap.get?_push_size _ rfl, rfl, _, rfl⟩⟩

def rBinM (g : Pw) (op : Operator) : R2 := fun x y H Q => ∃ F d e r, WOk g F H x d ∧ WOk g F H y e ∧ binD op d e = some r ∧ ∀ v H', NewD g F H v r H' → Q v H'
theorem op_binM {g : Pw} (op : Operator) : OpR X (binaryOp op) (rBinM g op) := by
  intro pins s σ H x y v u Q I rx ry h
  obtain ⟨F, d, e, r, hx, hy, h, q⟩ := h
  unfold binD at h
  split at h
  · cases h
    have e1 := hx.int; have e2 := hy.int
    exact op_add pins s σ H x y v u Q I rx ry ⟨_, _, e1, e2, q _ _ (.int _)⟩
  · split at h
    · rename_i c
      cases h
      have e1 := hx.str; have e2 := hy.str
      exact op_add_str pins s σ H x y v u Q I rx ry ⟨_, _, e1, e2, big_le c, q _ _ (.str _)⟩
    · cases h
  · split at h
    · rename_i c
      cases h
      obtain ⟨a, xs, e1, h1, r1⟩ := hx.list
      obtain ⟨b, ys, e2, h2, r2⟩ := hy.list
      exact op_catL pins s σ H x y v u Q I rx ry ⟨a, b, xs, ys, e1, e2, h1, h2, by rw [r1.length, r2.length]; exact big_le c, fun p hp => q _ _ (.lst hp (r1.append r2))⟩
    · cases h
  · split at h
    · rename_i c
      cases h
      obtain ⟨a, xs, e1, f1, h1, r1⟩ := hx.tuple
      obtain ⟨b, ys, e2, f2, h2, r2⟩ := hy.tuple
      refine op_catTF pins s σ H x y v u Q I rx ry ⟨a, b, xs, ys, e1, e2, h1.sq, h2.sq, by rw [r1.length, r2.length]; exact big_le c, fun z => ?_, fun _ z => ?_, fun _ _ p o hp ho => q _ _ (.tup hp ho (r1.append r2))⟩
      · subst z
        cases r1
        exact q _ _ (.same (.tup f2 h2 r2))
      · subst z
        cases r2
        rw [List.append_nil] at q
        exact q _ _ (.same (.tup f1 h1 r1))
    · cases h
  · cases h
    have e1 := hx.int; have e2 := hy.int
    exact op_sub pins s σ H x y v u Q I rx ry ⟨_, _, e1, e2, q _ _ (.int _)⟩
  · split at h
    · rename_i c
      cases h
      have e1 := hx.int; have e2 := hy.int
      rw [Bool.or_eq_true] at c
      exact op_mul pins s σ H x y v u Q I rx ry ⟨_, _, e1, e2, c.imp small64_iff small64_iff, q _ _ (.int _)⟩
    · cases h
  · split at h
    · rename_i c
      cases h
      have e1 := hx.int; have e2 := hy.int
      have c' := of_decide_eq_true c
      exact op_fdiv pins s σ H x y v u Q I rx ry ⟨_, _, e1, e2, c', q _ _ (.int _)⟩
    · cases h
  · split at h
    · rename_i c
      cases h
      have e1 := hx.int; have e2 := hy.int
      exact op_mod pins s σ H x y v u Q I rx ry ⟨_, _, e1, e2, of_decide_eq_true c, q _ _ (.int _)⟩
    · cases h
  · split at h
    · rename_i c
      cases h
      have e1 := hx.int; have e2 := hy.int
      rw [Bool.and_eq_true, Bool.and_eq_true] at c
      have c1 := of_decide_eq_true c.1.1
      have c2 := small64_iff c.1.2
      have c3 := small64_iff c.2
      exact op_pow pins s σ H x y v u Q I rx ry ⟨_, _, e1, e2, ⟨c1.1, c1.2, by omega⟩, q _ _ (.int _)⟩
    · cases h
  · cases h

/-! ### subscripts -/
theorem dvA_at {g : Pw} {F : Addr → Prop} {H : Hp} {xs : List V} {ds : List PyData} {i : Int} {d : PyData} (r : DvA g F H xs ds) (h : atI ds i = some d) : ∃ v, atI xs i = some v ∧ Dv g F H v d := by
  unfold atI at h ⊢
  rw [r.length]
  cases e : ixN ds.length i with
  | none => rw [e] at h; cases h
  | some j =>
    rw [e] at h
    exact r.get h
def rIdxM (g : Pw) : R2 := fun x y H Q => ∃ F d e r, WOk g F H x d ∧ WOk g F H y e ∧ idxD d e = some r ∧ ∀ v, Dv g F H v r → Q v H
theorem ix_M {g : Pw} (hg : g = ⟨X.prog, X.w⟩) (hu : X.A.units + 200 < cLine) : IxR X (rIdxM g) := by
  intro value slice pins s σ H x y v u Q I rx ry h hs
  obtain ⟨F, d, e, r, hx, hy, h, q⟩ := h
  cases d with
  | list xs =>
    cases e with
    | int k =>
      obtain ⟨a, vs, e1, h1, r1⟩ := hx.list
      have e2 := hy.int
      obtain ⟨z, hz, dz⟩ := dvA_at r1 (show atI xs k = some r from h)
      exact ix_list value slice pins s σ H x y v u Q I rx ry ⟨a, vs, k, z, e1, e2, .inl h1, hz, q _ dz⟩ hs
    | _ => cases h
  | tuple xs =>
    cases e with
    | int k =>
      obtain ⟨a, vs, e1, f1, h1, r1⟩ := hx.tuple
      have e2 := hy.int
      obtain ⟨z, hz, dz⟩ := dvA_at r1 (show atI xs k = some r from h)
      exact ix_tup value slice pins s σ H x y v u Q I rx ry ⟨a, vs, k, z, e1, e2, h1.sq, hz, q _ dz⟩ hs
    | _ => cases h
  | str z =>
    cases e with
    | int k =>
      have h : (if big z.length then (L2.atI z.cps.toList k).map fun c => PyData.str ⟨#[c]⟩ else none) = some r := h
      split at h
      · rename_i c
        obtain ⟨ch, hc, er⟩ := Option.map_eq_some_iff.mp h
        subst er
        exact ix_str value slice pins s σ H x y v u Q I rx ry ⟨z, k, ch, hx.str, hy.int, big_le c, hc, q _ (.str _)⟩ hs
      · cases h
    | _ => cases h
  | dict kvs =>
    have h : (if kindOk kvs e then dget kvs e else none) = some r := by
      revert h
      cases e <;> exact fun z => z
    split at h
    · rename_i c
      obtain ⟨a, o, rfl, ge, ho⟩ := dgetE_of hx hy c
      rcases ho with ⟨_, h2⟩ | ⟨w', d', h1, h2, h3⟩
      · rw [h] at h2; cases h2
      · rw [h] at h2; cases h2
        subst h1
        cases (show v = Value.ref a from rx)
        exact tail_any (ge.typeIs hg I) PySem.F.slot_dict_getitem.lookup (de_getItem hg (by omega) I ge ry fun w2 s2 I2 r2 => ⟨w', H, I2, r2, q _ h3⟩) hs
    · cases h
  | _ => cases h

/-! ### slices -/
theorem cut_dv {g : Pw} {F : Addr → Prop} {H : Hp} {xs : List V} {ds : List PyData} (r : DvA g F H xs ds) (lo hi : Option Int) : DvA g F H (cutV xs lo hi) (cutD ds lo hi) := by
  unfold cutV cutD
  rw [r.length]
  exact (r.drop _).take _
theorem cutD_whole {α : Type} {xs : List α} {lo hi : Option Int} (h : HT.sIx xs.length 0 lo = 0 ∧ HT.sIx xs.length xs.length hi = xs.length) : cutD xs lo hi = xs := by
  unfold cutD
  rw [h.1, h.2]
  simp
def rSlM (g : Pw) : V → Option Int → Option Int → Hp → VK → Prop := fun x lo hi H Q => ∃ F d r, WOk g F H x d ∧ sliD d lo hi = some r ∧ ∀ v H', NewD g F H v r H' → Q v H'
theorem sl_M {g : Pw} : SlR X (rSlM g) := by
  intro pins s σ H x v vl vu lo hi sl Q I rx hs pl pu h
  obtain ⟨F, d, r, hx, h, q⟩ := h
  cases d with
  | list ds =>
    cases (Option.some.inj h)
    obtain ⟨a, xs, e1, h1, r1⟩ := hx.list
    exact sl_list pins s σ H x v vl vu lo hi sl Q I rx hs pl pu ⟨a, xs, e1, .inl h1, fun p hp => q _ _ (.lst hp (cut_dv r1 lo hi))⟩
  | tuple ds =>
    cases (Option.some.inj h)
    obtain ⟨a, xs, e1, f1, h1, r1⟩ := hx.tuple
    refine sl_tupF pins s σ H x v vl vu lo hi sl Q I rx hs pl pu ⟨a, xs, e1, h1.sq, fun z => ?_, fun _ p o hp ho => q _ _ (.tup hp ho (cut_dv r1 lo hi))⟩
    rw [r1.length] at z
    rw [cutD_whole z] at q
    exact q _ _ (.same (.tup f1 h1 r1))
  | _ => cases h

/-! ### truth -/
theorem big_len {g : Pw} {F : Addr → Prop} {H : Hp} {xs : List V} {ds : List PyData} (r : DvA g F H xs ds) : xs.isEmpty = ds.isEmpty := by cases r <;> rfl
theorem truV_of {K : PySem.W.Frag} {g : Pw} {F : Addr → Prop} {H : Hp} {x : V} {d : PyData} {b : Bool} (hx : WOk g F H x d) (h : truD d = some b) : TruV K x H b := by
  cases d with
  | none => cases (Option.some.inj h); rw [hx.none]; exact rfl
  | bool c => cases (Option.some.inj h); rw [hx.bool]; exact rfl
  | int i => cases (Option.some.inj h); rw [hx.int]; exact rfl
  | str z =>
    have h : (if big z.length then some (z.length != 0) else none) = some b := h
    split at h
    · rename_i c
      cases h
      rw [hx.str]
      refine ⟨big_le c, ?_⟩
      cases hz : z.length with
      | zero => rfl
      | succ n =>
        have : ((n : Int) + 1) ≠ 0 := by omega
        simp [this]
    · cases h
  | list ds =>
    cases (Option.some.inj h)
    obtain ⟨a, xs, e1, h1, r1⟩ := hx.list
    subst e1
    exact .inl ⟨xs, .inl h1, by rw [big_len r1]⟩
  | tuple ds =>
    cases (Option.some.inj h)
    obtain ⟨a, xs, e1, f1, h1, r1⟩ := hx.tuple
    subst e1
    exact .inr (.inl ⟨xs, h1.sq, by rw [big_len r1]⟩)
  | dict ps => cases h
def rTruM (g : Pw) : V → Hp → (Bool → Hp → Prop) → Prop := fun x H Q => ∃ F d b, WOk g F H x d ∧ truD d = some b ∧ Q b H
theorem tru_M {g : Pw} : TruR X (rTruM g) := by
  intro pins s σ H x v Q I rx h
  obtain ⟨F, d, b, hx, h, q⟩ := h
  exact tru_ok pins s σ H x v Q I rx ⟨b, truV_of hx h, q⟩
end
end Mn
end
section
set_option linter.all false
set_option autoImplicit false
set_option maxRecDepth 100000
/-! Mini: built-in functions by data. -/
namespace Mn
open PySem PySem.Spec PyProof.Rows L2

/-- a new list or dict -/
inductive NewF (g : Pw) (F : Addr → Prop) (H : Hp) : V → PyData → Hp → Prop
  | lst (p : Addr) (xs : List V) (ds : List PyData) : H p = none → DvA g F H xs ds → NewF g F H (.ref p) (.list ds) (upd H p (.lst xs))
  | dK (p : Addr) (kvs : List (Key × V)) (ps : List (PyData × PyData)) : H p = none → DvK g F H kvs ps → NewF g F H (.ref p) (.dict ps) (upd H p (.dK kvs))
  | dT (p : Addr) (kvs : List (List Key × Addr × Value)) (ps : List (PyData × PyData)) : H p = none → DvT g F H kvs ps → NewF g F H (.ref p) (.dict ps) (upd H p (TD g p kvs))
theorem NewF.newD {g : Pw} {F : Addr → Prop} {H H' : Hp} {v : V} {d : PyData} (h : NewF g F H v d H') : NewD g F H v d H' := by
  cases h with
  | lst p xs ds hp r => exact .lst hp r
  | dK p kvs ps hp r => exact .new p _ hp (.dK (.inr rfl) (.inl upd_same) (r.new hp))
  | dT p kvs ps hp r => exact .new p _ hp (.dT (.inr rfl) (.inl upd_same) (r.new hp))
/-- pairwise -/
inductive WOkA (g : Pw) (F : Addr → Prop) (H : Hp) : List V → List PyData → Prop
  | nil : WOkA g F H [] []
  | cons {v : V} {vs : List V} {d : PyData} {ds : List PyData} : WOk g F H v d → WOkA g F H vs ds → WOkA g F H (v :: vs) (d :: ds)
theorem WOkA.one {g : Pw} {F : Addr → Prop} {H : Hp} {vs : List V} {d : PyData} (h : WOkA g F H vs [d]) : ∃ v, vs = [v] ∧ WOk g F H v d := by
  cases h with
  | cons r t => cases t; exact ⟨_, rfl, r⟩
theorem WOkA.two {g : Pw} {F : Addr → Prop} {H : Hp} {vs : List V} {d e : PyData} (h : WOkA g F H vs [d, e]) : ∃ v u, vs = [v, u] ∧ WOk g F H v d ∧ WOk g F H u e := by
  cases h with
  | cons r t =>
    cases t with
    | cons r' t => cases t; exact ⟨_, _, rfl, r, r'⟩

def rBltM (g : Pw) (b : Blt) : List V → Hp → VK → Prop := fun xs H Q => ∃ F ds r, WOkA g F H xs ds ∧ bltD b ds = some r ∧ ∀ v H', NewD g F H v r H' → Q v H'
def rBltF (g : Pw) (b : Blt) : List V → Hp → VK → Prop := fun xs H Q => ∃ F ds r, WOkA g F H xs ds ∧ bltD b ds = some r ∧ ∀ v H', NewF g F H v r H' → Q v H'
section
variable {X : Cx} {g : Pw}
theorem un_of {f : PyData → Option PyData} {F : Addr → Prop} {H : Hp} {xs : List V} {ds : List PyData} {r : PyData} (hx : WOkA g F H xs ds) (h : un f ds = some r) : ∃ x d, xs = [x] ∧ WOk g F H x d ∧ f d = some r := by
  cases hx with
  | nil => cases h
  | cons q t =>
    cases t with
    | nil => exact ⟨_, _, rfl, q, h⟩
    | cons _ _ => cases h
theorem cb_len (hg : g = ⟨X.prog, X.w⟩) : CallR X (.builtin "len") (rBltM g .len) := by
  intro pins s σ H xs us Q I r h
  obtain ⟨F, ds, d, hx, h, q⟩ := h
  have hs : sizeLine = 16777216 := sizeLine_eq
  obtain ⟨x, e, rfl, hx, h⟩ := un_of hx h
  cases e with
  | str z =>
    have h : (if big z.length then some (PyData.int z.length) else none) = some d := h
    split at h
    · rename_i c
      cases h
      have ex := hx.str
      exact call_len pins s σ H _ us Q I r ⟨x, z.length, rfl, by subst ex; exact ⟨big_le c, rfl⟩, q _ _ (.int _)⟩
    · cases h
  | list ds =>
    cases (Option.some.inj h)
    obtain ⟨a, xs, e1, h1, r1⟩ := hx.list
    subst e1
    rw [← r1.length] at q
    exact call_len pins s σ H _ us Q I r ⟨.ref a, xs.length, rfl, .inl ⟨xs, .inl h1, rfl⟩, q _ _ (.int _)⟩
  | tuple ds =>
    cases (Option.some.inj h)
    obtain ⟨a, xs, e1, f1, h1, r1⟩ := hx.tuple
    subst e1
    rw [← r1.length] at q
    exact call_len pins s σ H _ us Q I r ⟨.ref a, xs.length, rfl, .inr ⟨xs, h1.sq, rfl⟩, q _ _ (.int _)⟩
  | dict ps =>
    cases (Option.some.inj h)
    obtain ⟨a, e1, h1⟩ := hx.dict
    subst e1
    obtain ⟨u, rfl, ru⟩ := vals1 r
    cases ru
    rcases h1 with ⟨kvs, h1, r1⟩ | ⟨kvs, h1, r1⟩
    · rw [← r1.length] at q
      exact d_len I h1 fun t s' I' => ⟨.int kvs.length, H, I', ⟨t, rfl⟩, q _ _ (.int _)⟩
    · rw [← r1.length] at q
      obtain ⟨z, hd, dd⟩ := td_rd hg I h1 r1
      exact call_len_dictH hd dd (by omega) ⟨.int kvs.length, H, I.tok _, ⟨_, rfl⟩, q _ _ (.int _)⟩
  | _ => cases h
theorem cb_tup : CallR X (.type "tuple") (rBltM g .tup) := by
  intro pins s σ H xs us Q I r h
  obtain ⟨F, ds, d, hx, h, q⟩ := h
  obtain ⟨x, e, rfl, hx, h⟩ := un_of hx h
  cases e with
  | list ds =>
    cases (Option.some.inj h)
    obtain ⟨a, xs, e1, h1, r1⟩ := hx.list
    subst e1
    exact call_tuple_F pins s σ H _ us Q I r ⟨a, xs, rfl, .inl ⟨.inl h1, fun p o hp ho => q _ _ (.tup hp ho r1)⟩⟩
  | tuple ds =>
    cases (Option.some.inj h)
    obtain ⟨a, xs, e1, f1, h1, r1⟩ := hx.tuple
    subst e1
    exact call_tuple_F pins s σ H _ us Q I r ⟨a, xs, rfl, .inr ⟨h1.sq, q _ _ (.same (.tup f1 h1 r1))⟩⟩
  | _ => cases h
theorem cb_lst : CallR X (.type "list") (rBltF g .lst) := by
  intro pins s σ H xs us Q I r h
  obtain ⟨F, ds, d, hx, h, q⟩ := h
  obtain ⟨x, e, rfl, hx, h⟩ := un_of hx h
  cases e with
  | list ds =>
    cases (Option.some.inj h)
    obtain ⟨a, xs, e1, h1, r1⟩ := hx.list
    subst e1
    exact call_list_of pins s σ H _ us Q I r ⟨a, xs, rfl, .inl (.inl h1), fun p hp => q _ _ (.lst p _ _ hp r1)⟩
  | tuple ds =>
    cases (Option.some.inj h)
    obtain ⟨a, xs, e1, f1, h1, r1⟩ := hx.tuple
    subst e1
    exact call_list_of pins s σ H _ us Q I r ⟨a, xs, rfl, .inr h1.sq, fun p hp => q _ _ (.lst p _ _ hp r1)⟩
  | _ => cases h
theorem bools_of {F : Addr → Prop} {H : Hp} : ∀ {xs : List V} {ds : List PyData} {l : List Bool}, DvA g F H xs ds → bools ds = some l → xs = l.map V.bl
  | _, _, _, .nil, h => by cases h; rfl
  | _, d :: ds, l, .cons r t, h => by
    cases d with
    | bool b =>
      obtain ⟨l', h1, rfl⟩ := Option.map_eq_some_iff.mp (show (bools ds).map (fun l => b :: l) = some l from h)
      cases r
      rw [bools_of t h1]
      rfl
    | _ => cases h
theorem cb_all (hc : X.calm = true) : CallR X (.builtin "all") (rBltM g .all) := by
  intro pins s σ H xs us Q I r h
  obtain ⟨F, ds, d, hx, h, q⟩ := h
  obtain ⟨x, e, rfl, hx, h⟩ := un_of hx h
  cases e with
  | list ds =>
    obtain ⟨l, h1, rfl⟩ := Option.map_eq_some_iff.mp h
    obtain ⟨a, xs, e1, h2, r1⟩ := hx.list
    subst e1
    rw [bools_of r1 h1] at h2
    exact cr_all hc pins s σ H _ us Q I r ⟨a, l, rfl, .inl h2, q _ _ (.bool _)⟩
  | _ => cases h
theorem cb_any (hc : X.calm = true) : CallR X (.builtin "any") (rBltM g .any) := by
  intro pins s σ H xs us Q I r h
  obtain ⟨F, ds, d, hx, h, q⟩ := h
  obtain ⟨x, e, rfl, hx, h⟩ := un_of hx h
  cases e with
  | list ds =>
    obtain ⟨l, h1, rfl⟩ := Option.map_eq_some_iff.mp h
    obtain ⟨a, xs, e1, h2, r1⟩ := hx.list
    subst e1
    rw [bools_of r1 h1] at h2
    exact cr_any hc pins s σ H _ us Q I r ⟨a, l, rfl, .inl h2, q _ _ (.bool _)⟩
  | _ => cases h
theorem cb_int : CallR X (.type "int") (rBltM g .int) := by
  intro pins s σ H xs us Q I r h
  obtain ⟨F, ds, d, hx, h, q⟩ := h
  obtain ⟨x, e, rfl, hx, h⟩ := un_of hx h
  cases e with
  | int i =>
    cases (Option.some.inj h)
    have ex := hx.int
    subst ex
    exact call_int1 pins s σ H _ us Q I r (.inl ⟨i, rfl, q _ _ (.int _)⟩)
  | bool b =>
    cases (Option.some.inj h)
    have ex := hx.bool
    subst ex
    exact call_int1 pins s σ H _ us Q I r (.inr ⟨b, rfl, q _ _ (.int _)⟩)
  | _ => cases h
theorem cb_str : CallR X (.type "str") (rBltM g .str) := by
  intro pins s σ H xs us Q I r h
  obtain ⟨F, ds, d, hx, h, q⟩ := h
  obtain ⟨x, e, rfl, hx, h⟩ := un_of hx h
  cases e with
  | int i =>
    have h : (if decide (i.natAbs.log2 < 1920) then some (PyData.str (toString i)) else none) = some d := h
    split at h
    · rename_i c
      cases h
      have ex := hx.int
      subst ex
      exact call_str_int pins s σ H _ us Q I r ⟨i, rfl, of_decide_eq_true c, q _ _ (.str _)⟩
    · cases h
  | _ => cases h
theorem cb_abs : CallR X (.builtin "abs") (rBltM g .abs) := by
  intro pins s σ H xs us Q I r h
  obtain ⟨F, ds, d, hx, h, q⟩ := h
  obtain ⟨x, e, rfl, hx, h⟩ := un_of hx h
  cases e with
  | int i =>
    cases (Option.some.inj h)
    have ex := hx.int
    subst ex
    exact call_abs pins s σ H _ us Q I r ⟨i, rfl, q _ _ (.int _)⟩
  | _ => cases h
theorem cb_min (hc : X.calm = true) : CallR X (.builtin "min") (rBltM g .min2) := by
  intro pins s σ H xs us Q I r h
  obtain ⟨F, ds, d, hx, h, q⟩ := h
  have h : min2D ds = some d := h
  unfold min2D at h
  split at h
  · obtain ⟨x, y, rfl, h1, h2⟩ := hx.two
    cases h
    have e1 := h1.int; have e2 := h2.int
    subst e1 e2
    exact call_min2 hc pins s σ H _ us Q I r ⟨_, _, rfl, q _ _ (.int _)⟩
  · cases h

/-! ### sorted -/
theorem each_of {F : Addr → Prop} {H : Hp} : ∀ {xs : List V} {us : List Value} {ds : List PyData}, Vals xs us → DvA g F H xs ds → PySem.W.EachIs (fun u d => ∃ v, RelV v u ∧ Dv g F H v d) us ds
  | _, _, _, .nil, .nil => .nil
  | _, _, _, .cons r t, .cons q rest => .cons ⟨_, r, q⟩ (each_of t rest)
theorem of_each {F : Addr → Prop} {H : Hp} : ∀ {us : List Value} {ds : List PyData}, PySem.W.EachIs (fun u d => ∃ v, RelV v u ∧ Dv g F H v d) us ds → ∃ xs : List V, Vals xs us ∧ DvA g F H xs ds
  | _, _, .nil => ⟨[], .nil, .nil⟩
  | _, _, .cons ⟨v, r, q⟩ t => let ⟨xs, h1, h2⟩ := of_each t; ⟨v :: xs, .cons r h1, .cons q h2⟩
theorem each_reads {F : Addr → Prop} {H : Hp} {pins : List (Addr × Obj)} {σ : L2.St} {s : Shared} (I : Inv X pins σ H s) : ∀ {us : List Value} {ds : List PyData}, (∀ d ∈ ds, d.plain = true) → PySem.W.EachIs (fun u d => ∃ v, RelV v u ∧ Dv g F H v d) us ds → PySem.W.EachIs (fun u d => ∃ as, Reads s.heap u (id d) as) us ds
  | _, _, _, .nil => .nil
  | _, _, hp, .cons ⟨v, r, q⟩ t => .cons ((q.dp (K := X.K) (hp _ List.mem_cons_self)).reads I _ v _ r) (each_reads I (fun d hd => hp d (List.mem_cons_of_mem _ hd)) t)
theorem cb_sorted (hu : X.A.units + 200 < cLine) : CallR X (.builtin "sorted") (rBltF g .sorted) := by
  intro pins s σ H xs us Q I r h
  obtain ⟨F, ds, d, hx, h, q⟩ := h
  obtain ⟨x, e, rfl, hx, h⟩ := un_of hx h
  cases e with
  | list ds =>
    obtain ⟨l, h1, rfl⟩ := Option.map_eq_some_iff.mp h
    obtain ⟨a, xs, e1, h2, r1⟩ := hx.list
    subst e1
    obtain ⟨u, rfl, ru⟩ := vals1 r
    cases ru
    unfold sortD at h1
    split at h1
    · rename_i c
      rw [Bool.and_eq_true, Bool.and_eq_true] at c
      obtain ⟨⟨c1, c2⟩, c3⟩ := c
      cases h1
      obtain ⟨hz, its, n, rv, eh⟩ := h2.ok I.hok
      have hlen := rv.length
      have hl2 := r1.length
      have e1 := each_of rv r1
      have pl : ∀ d ∈ ds, d.plain = true := fun d hd => (depOk_iff.mp (List.all_eq_true.mp c3 d hd)).1
      have er := each_reads I pl e1
      have hal : PySem.W.AllAlike (ds.map id) := by
        rw [List.map_id]
        intro d hd d' hd'
        exact List.all_eq_true.mp (List.all_eq_true.mp c1 d hd) d' hd'
      have hk : PySem.W.Sortable (ds.map id) := by
        rw [List.map_id]
        rw [Bool.or_eq_true] at c2
        rcases c2 with c2 | c2
        · refine .inl fun d hd => ?_
          have z := List.all_eq_true.mp c2 d hd
          cases d with
          | tuple l =>
            cases l with
            | nil => simp at z
            | cons y ys => exact ⟨y, ys, rfl⟩
          | _ => simp at z
        · refine .inr fun d hd => ?_
          have z := List.all_eq_true.mp c2 d hd
          cases d <;> simp at z ⊢
      refine PySem.W.sorted_data (R := fun u d => ∃ v, RelV v u ∧ Dv g F H v d) (enc := id) ⟨_, eh, rfl, n, rfl⟩ e1 er hal hk (by omega) (fun d hd => ?_) fun out ho eo => ?_
      · have z := (depOk_iff.mp (List.all_eq_true.mp c3 d hd)).2
        show X.A.units + 2 + d.depth < cLine
        omega
      · obtain ⟨xs', v1, v2⟩ := of_each eo
        obtain ⟨cn, hcn⟩ := sortedAll_at s.heap its out.toArray
        have hfr : H (s.heap.objs.size + 1) = none := I.hok.fresh (Nat.le_succ _)
        have hxl : xs'.length = out.length := v1.length
        refine ⟨.ref (s.heap.objs.size + 1), _, I.laid (t' := s.toks) (o := .lst xs') (fun b o e => sortedAll_old e) (Nat.le_succ _) ⟨by omega, out, cn, v1, hcn⟩, rfl, ?_⟩
        exact q _ _ (.lst _ _ _ hfr v2)
    · cases h1
  | _ => cases h

/-! ### dict(pairs) -/
structure Qd where
  b : Addr
  u : Value
  k : Key
  v : Value
theorem qds_of {F : Addr → Prop} {H : Hp} {pins : List (Addr × Obj)} {σ : L2.St} {s : Shared} (I : Inv X pins σ H s) : ∀ {xs : List V} {us : List Value} {ds : List PyData} {acc ps : List (PyData × PyData)}, Vals xs us → DvA g F H xs ds → pairsD ds acc = some ps →
    ∃ (qs : List Qd) (kvs : List (Key × V)), us = qs.map (fun z => .ref z.b) ∧ KV kvs (qs.map fun z => (z.k, z.v)) ∧ (∀ z ∈ qs, s.heap.IsTuple z.b #[z.u, z.v] ∧ keyIs z.k z.u = true) ∧ ∀ accV, DvK g F H accV acc → DvK g F H (mergeK accV kvs) ps
  | _, _, _, acc, ps, .nil, .nil, h => by
    cases h
    exact ⟨[], [], rfl, .nil, fun z hz => absurd hz (by simp), fun accV h => h⟩
  | _, _, d :: ds, acc, ps, .cons r t, .cons q rest, h => by
    unfold pairsD at h
    split at h
    · rename_i e; cases e
    · rename_i k' e' ds' acc' he
      injection he with he1 he2
      subst he1 he2
      split at h
      · rename_i c
        obtain ⟨k, rfl⟩ := isKey1_of c
        cases q with
        | tup f ta dl =>
          cases dl with
          | cons q1 dl =>
            cases dl with
            | cons q2 dl =>
              cases dl
              have e1 := keyV (.inl q1)
              subst e1
              obtain ⟨ob, eo, _⟩ := ta
              obtain ⟨_, _, its, rv, p⟩ := I.hok _ _ eo
              obtain ⟨u1, u2, rfl, ru1, ru2⟩ := Vals.two rv
              cases r
              obtain ⟨qs, kvs, g1, g2, g3, g4⟩ := qds_of I t rest h
              refine ⟨⟨_, u1, k, u2⟩ :: qs, (k, _) :: kvs, by rw [g1]; rfl, .cons ⟨rfl, ru2⟩ g2, fun z hz => ?_, fun accV hv => g4 _ (dvK_put k q2 hv)⟩
              rcases List.mem_cons.mp hz with e | hz
              · subst e
                exact ⟨p, kV_is (P := X.prog) (w := X.w) ru1⟩
              · exact g3 z hz
      · cases h
    · cases h
theorem cb_dct (hc : X.calm = true) : CallR X (.type "dict") (rBltF g .dct) := by
  intro pins s σ H xs us Q I r h
  obtain ⟨F, ds, d, hx, h, q⟩ := h
  obtain ⟨x, e, rfl, hx, h⟩ := un_of hx h
  have core : ∀ (T : String) (a : Addr) (its : List Value) (ys : List V) (es : List PyData) (ps : List (PyData × PyData)), Vals ys its → DvA g F H ys es → pairsD es [] = some ps → ys.length ≤ sizeLine → PlainSeq T s.heap a its.toArray → (T = "list" ∨ T = "tuple") →
      (∀ v H', NewF g F H v (.dict ps) H' → Q v H') → wpAny (model X.prog X.w) X.A (call (.type "dict") [.ref a]) (EP X pins σ Q) X.xe s := by
    intro T a its ys es ps rv dv hp hz pl hT q
    obtain ⟨qs, kvs, e1, e2, e3, e4⟩ := qds_of I rv dv hp
    have hl : its.length = qs.length := by rw [e1, List.length_map]
    have hyl := rv.length
    have pi : PairItems s.heap its.toArray (fun j => (qs.map Qd.b).getD j 0) (qs.map fun z => (z.u, z.v)) := by
      refine ⟨by simp [hl], fun j k v hj => ?_⟩
      rw [List.getElem?_map] at hj
      obtain ⟨z, hz1, hz2⟩ := Option.map_eq_some_iff.mp hj
      cases hz2
      have hm := e3 z (List.mem_of_getElem? hz1)
      have eb : (qs.map Qd.b).getD j 0 = z.b := by simp [List.getD, hz1]
      show its.toArray[j]? = some (.ref ((qs.map Qd.b).getD j 0)) ∧ PairAt s.heap ((qs.map Qd.b).getD j 0) z.u z.v
      rw [eb]
      refine ⟨?_, .inl hm.1⟩
      rw [List.getElem?_toArray, e1, List.getElem?_map, hz1]
      rfl
    have ph : PairsHave (mixKind X.prog X.w) (qs.map fun z => (z.u, z.v)).length (PairRel (qs.map fun z => (z.u, z.v))) (qs.map fun z => (z.k, z.v)) := by
      refine ⟨by simp, fun i key v hr => ?_⟩
      have hr : (qs.map fun z => (z.u, z.v))[i]? = some (key, v) := hr
      rw [List.getElem?_map] at hr
      obtain ⟨z, hz1, hz2⟩ := Option.map_eq_some_iff.mp hr
      cases hz2
      exact ⟨z.k, by rw [List.getElem?_map, hz1]; rfl, (e3 z (List.mem_of_getElem? hz1)).2⟩
    have hsz : (qs.map fun z => (z.u, z.v)).length ≤ sizeLine := by rw [List.length_map]; omega
    have fin : ∀ (h' : Heap) (tk : Nat), h'.DictOf (mixKind X.prog X.w) s.heap.objs.size (merged [] (qs.map fun z => (z.k, z.v))) → (∀ b o, b ∉ ([] : List Addr) → s.heap.get? b = some o → h'.get? b = some o) → EP X pins σ Q (.ref s.heap.objs.size) { s with heap := h', toks := tk } := by
      intro h' tk hd' k
      have hm : (s.heap.objs.size == sysModules) = false := beq_eq_false_iff_ne.mpr (Nat.ne_of_gt I.big)
      have hlen : (mergeK [] kvs).length ≤ sizeLine := by
        refine Nat.le_trans (length_mergeK kvs []) ?_
        have z := e2.length
        rw [List.length_map] at z
        rw [List.length_nil, Nat.zero_add]
        omega
      refine ⟨.ref s.heap.objs.size, _, I.laid (t' := tk) (o := .dK (mergeK [] kvs)) (fun b o e => k b o (by simp) e) (Nat.le_refl _) ⟨hlen, hm, merged [] (qs.map fun z => (z.k, z.v)), KV.merge e2 .nil, hd'⟩, rfl, ?_⟩
      exact q _ _ (.dK _ _ _ (I.hok.fresh (Nat.le_refl _)) (e4 [] .nil))
    rcases hT with rfl | rfl
    · exact PySem.call_dict_pairs (PairArg.list a its.toArray _ _) (I.ok.hd hc) ⟨pl, pi⟩ ph hsz fin
    · exact PySem.call_dict_pairs (PairArg.tuple a its.toArray _ _) (I.ok.hd hc) ⟨pl, pi⟩ ph hsz fin
  cases e with
  | list es =>
    obtain ⟨l, h1, rfl⟩ := Option.map_eq_some_iff.mp h
    obtain ⟨a, ys, e1, h2, r1⟩ := hx.list
    subst e1
    obtain ⟨u, rfl, ru⟩ := vals1 r
    cases ru
    obtain ⟨hz, its, n, rv, eh⟩ := h2.ok I.hok
    exact core "list" a its ys es l rv r1 h1 hz ⟨_, n, eh, rfl, rfl, rfl⟩ (.inl rfl) q
  | tuple es =>
    obtain ⟨l, h1, rfl⟩ := Option.map_eq_some_iff.mp h
    obtain ⟨a, ys, e1, f1, h2, r1⟩ := hx.tuple
    subst e1
    obtain ⟨u, rfl, ru⟩ := vals1 r
    cases ru
    obtain ⟨ob, eo, od⟩ := h2
    obtain ⟨e9, hz, its, rv, ob', eh, ec, n, ed⟩ := I.hok _ _ eo
    have : ob' = ob := Option.some.inj (eh.symm.trans e9)
    subst this
    exact core "tuple" a its ys es l rv r1 h1 hz ⟨_, n, eh, ec, od, ed⟩ (.inr rfl) q
  | _ => cases h

/-! ### isinstance -/
def tyName : PyData → String
  | .none => "NoneType"
  | .bool _ => "bool"
  | .int _ => "int"
  | .str _ => "str"
  | .list _ => "list"
  | .tuple _ => "tuple"
  | .dict _ => "dict"
def Ty.name : Ty → String
  | .tup => "tuple"
  | .str => "str"
  | .int => "int"
  | .bool => "bool"
  | .list => "list"
  | .dict => "dict"
  | .lt => ""
theorem kit_data {F : Addr → Prop} {H : Hp} {pins : List (Addr × Obj)} {σ : L2.St} {s : Shared} {x : V} {u : Value} {d : PyData} (hg : g = ⟨X.prog, X.w⟩) (I : Inv X pins σ H s) (hx : WOk g F H x d) (rx : RelV x u) :
    ∃ P : Heap → Prop, PySem.W.KitX X.K u (.type (tyName d)) P ∧ P s.heap ∧ u ≠ .builtin "__main__.__loader__#opaque" := by
  cases d with
  | none => have e := hx.none; subst e; exact kit_of I rx (.base .non)
  | bool b => have e := hx.bool; subst e; exact kit_of I rx (.base (.bl b))
  | int i => have e := hx.int; subst e; exact kit_of I rx (.base (.int i))
  | str z => have e := hx.str; subst e; exact kit_of I rx (.base (.str z))
  | list ds =>
    obtain ⟨a, xs, e, h1, _⟩ := hx.list
    subst e
    rcases h1 with h1 | ⟨o, h1⟩
    · exact kit_of I rx (.base (.lst h1))
    · exact kit_of I rx (.base (.frz h1))
  | tuple ds =>
    obtain ⟨a, xs, e, _, ⟨o, h1, _⟩, _⟩ := hx.tuple
    subst e
    exact kit_of I rx (.fTuple h1)
  | dict ps =>
    obtain ⟨a, e, h1⟩ := hx.dict
    subst e
    cases (show u = Value.ref a from rx)
    rcases h1 with ⟨kvs, h1, r1⟩ | ⟨kvs, h1, r1⟩
    · obtain ⟨_, _, vs, _, o, es, ep, h4, h5, _⟩ := dk_rd I.hok h1
      exact ⟨_, PySem.W.kitx_dict, ⟨o, h4, h5.1⟩, fun z => nomatch z⟩
    · obtain ⟨_, _, o, es, ep, h4, h5, _⟩ := td_rd hg I h1 r1
      exact ⟨_, PySem.W.kitx_dict, ⟨o, h4, h5.1⟩, fun z => nomatch z⟩
theorem kit_tys (t : Ty) (d : PyData) (ht : t ≠ .lt) (K : PySem.W.Frag) : PySem.W.kitOne K (.type (tyName d)) (.type t.name) = some (tyD t d) := by
  cases d with
  | none => cases t <;> first | exact absurd rfl ht | exact kit_ty (a := "NoneType") (r := false) (by decide +kernel)
  | bool b => cases t <;> first | exact absurd rfl ht | exact kit_ty (a := "bool") (r := false) (by decide +kernel) | exact kit_ty (a := "bool") (r := true) (by decide +kernel)
  | int i => cases t <;> first | exact absurd rfl ht | exact kit_ty (a := "int") (r := false) (by decide +kernel) | exact kit_ty (a := "int") (r := true) (by decide +kernel)
  | str z => cases t <;> first | exact absurd rfl ht | exact kit_ty (a := "str") (r := false) (by decide +kernel) | exact kit_ty (a := "str") (r := true) (by decide +kernel)
  | list z => cases t <;> first | exact absurd rfl ht | exact kit_ty (a := "list") (r := false) (by decide +kernel) | exact kit_ty (a := "list") (r := true) (by decide +kernel)
  | tuple z => cases t <;> first | exact absurd rfl ht | exact kit_ty (a := "tuple") (r := false) (by decide +kernel) | exact kit_ty (a := "tuple") (r := true) (by decide +kernel)
  | dict z => cases t <;> first | exact absurd rfl ht | exact kit_ty (a := "dict") (r := false) (by decide +kernel) | exact kit_ty (a := "dict") (r := true) (by decide +kernel)
def rIsiM (g : Pw) (t : Ty) : List V → Hp → VK → Prop := fun xs H Q => ∃ F x d, xs = [x, .ty t.name] ∧ t ≠ .lt ∧ WOk g F H x d ∧ Q (.bl (tyD t d)) H
theorem cb_isi (hg : g = ⟨X.prog, X.w⟩) (t : Ty) : CallR X (.builtin "isinstance") (rIsiM g t) := by
  intro pins s σ H xs us Q I r h
  obtain ⟨F, x, d, rfl, ht, hx, q⟩ := h
  obtain ⟨u1, u2, rfl, r1, r2⟩ := vals2 r
  cases (show u2 = Value.type t.name from r2)
  obtain ⟨P, Z, p, hne⟩ := kit_data hg I hx r1
  exact PySem.W.kia_one Z I.kIn p (kit_tys t d ht X.K) hne fun tk => ⟨.bl _, H, I.tok tk, rfl, q⟩
end
end Mn
end
section
set_option linter.all false
set_option autoImplicit false
set_option maxRecDepth 100000
/-! Mini: what is walked: lists, tuples, texts, ranges, zips of two and three, enumerate. -/
namespace Mn
open PySem PySem.Spec PyProof.Rows L2

/-- an iterator that hands out new tuples -/
structure TurnT (P : Program) (w : World) (K : PySem.W.Frag) (J : L2.It) (fp : List Addr) (z : Addr) (tn : Nat → Heap → Prop) : Prop where
  mem : z ∈ fp
  obj : ∀ i h, tn i h → ∀ b ∈ fp, ∃ o, h.get? b = some o ∧ ∀ v, o.data ≠ .cell v
  keep : ∀ i h h', tn i h → (∀ b ∈ fp, ∀ o, h.get? b = some o → h'.get? b = some o) → tn i h'
  item : ∀ (X : Cx), X.prog = P → X.w = w → X.K = K → X.calm = true → ∀ (i : Nat) (pins : List (Addr × Obj)) (s : Shared) (σ : L2.St) (H : Hp), Inv X pins σ H s → (∀ b ∈ fp, FpOk X pins H b) → tn i s.heap → J.go i H →
    ∃ fp' wr n Pt St Mid, WalksT P w X.A z fp' wr n Pt St Mid ∧ i < n ∧ St i s.heap ∧ (∀ b ∈ wr, b ∈ fp) ∧ (∀ h', St (i + 1) h' → tn (i + 1) h') ∧
      ∀ vals, Pt i vals → ∃ xs, Vals xs vals.toList ∧ xs.length ≤ sizeLine ∧ ∀ T, H T = none → J.yld i H (.ref T) (upd H T (.tup xs))
  done : ∀ (X : Cx), X.prog = P → X.w = w → X.K = K → X.calm = true → ∀ (i : Nat) (pins : List (Addr × Obj)) (s : Shared) (σ : L2.St) (H : Hp), Inv X pins σ H s → (∀ b ∈ fp, FpOk X pins H b) → tn i s.heap → J.stop i H →
    ∃ fp' wr n Pt St Mid, WalksT P w X.A z fp' wr n Pt St Mid ∧ i = n ∧ St i s.heap ∧ ∀ b ∈ wr, b ∈ fp
  self : ∀ (A : Around) (i : Nat) (s : Shared) (Q : Value → Shared → Prop) (E : Value → Shared → Prop), tn i s.heap → Q (.ref z) s → wpAny (model P w) A (pyIter (.ref z)) Q E s
theorem TurnT.turn {P : Program} {w : World} {K : PySem.W.Frag} {J : L2.It} {fp : List Addr} {z : Addr} {tn : Nat → Heap → Prop} (T : TurnT P w K J fp z tn) {elts : List Expr} {kk : Nat} {tpos : Pos} : Turn P w K (.Tuple elts kk tpos) J fp z tn where
  mem := T.mem
  obj := T.obj
  keep := T.keep
  item := by
    intro X hP hw hK hc i pins s σ H E I hf st hg
    obtain ⟨fp', wr, n, Pt, St, Mid, W, hi, hs, hwr, htn, hv⟩ := T.item X hP hw hK hc i pins s σ H I hf st hg
    subst hP hw hK
    refine W.item i s _ _ hi hs fun D vals h' tk hP hD hT hM hk => ?_
    refine ⟨_, rfl, W.go elts kk tpos i D { s with heap := h', toks := tk } _ _ hM fun h'' st'' hk2 => ?_⟩
    obtain ⟨xs, rv, hz, hy⟩ := hv vals hP
    have hDw : D ∉ wr := W.apart i D h' hM
    obtain ⟨ob, e1, e2, e3⟩ := hT
    have new : ObjOk X.prog X.w (upd H D (.tup xs)) h'' D (.tup xs) := ⟨hz, vals.toList, rv, ob, hk2 _ _ hDw e1, e2, by simpa using e3⟩
    have I1 : Inv X pins σ (upd H D (.tup xs)) { s with heap := h'', toks := tk } := I.turnedNew (ch := wr) (fun b o hb q => hk2 b o hb (hk b o hb q)) (fun b hb => hf b (hwr b hb)) hD new
    have hn : H D = none := I.hok.fresh hD
    refine ⟨.ref D, _, I1, rfl, hy D hn, htn _ st'', fun b hb => ?_⟩
    obtain ⟨o, eo, _⟩ := T.obj _ _ st b hb
    rw [upd_ne (Nat.ne_of_lt (Nat.lt_of_lt_of_le (Heap.lt_size eo) hD))]
    exact (hf b hb).1
  done := by
    intro X hP hw hK hc i pins s σ H E I hf st hg
    obtain ⟨fp', wr, n, Pt, St, Mid, W, hi, hs, hwr⟩ := T.done X hP hw hK hc i pins s σ H I hf st hg
    subst hP hw hK hi
    exact W.done s _ _ hs fun h' tk hk => ⟨rfl, I.turnedL (ch := wr) hk fun b hb => hf b (hwr b hb)⟩
  self := T.self

/-! ### a list or a tuple, as it stands -/
def SqB (b : Bool) (K : PySem.W.Frag) (H : Hp) (a : Addr) (xs : List V) : Prop := if b then SqL K H a xs else SqT K H a xs
def IterB (b : Bool) (h : Heap) (it l : Addr) (i : Nat) : Prop := if b then h.IsListIter it l i else h.IsTupleIter it l i
def HoldB (b : Bool) (h : Heap) (l : Addr) (its : Array Value) : Prop := if b then h.IsList l its else h.IsTuple l its
def iterO (b : Bool) (l : Addr) : Obj := { cls := .type (if b then "list_iterator" else "tuple_iterator"), data := .fields #[.ref l, .int 0 0] }
theorem SqB.hold {X : Cx} {pins : List (Addr × Obj)} {σ : L2.St} {H : Hp} {s : Shared} {b : Bool} {a : Addr} {xs : List V} (I : Inv X pins σ H s) (h : SqB b X.K H a xs) : ∃ its : List Value, Vals xs its ∧ HoldB b s.heap a its.toArray ∧ xs.length ≤ sizeLine := by
  cases b with
  | true =>
    obtain ⟨its, r, p, z⟩ := I.list (show SqL X.K H a xs from h)
    exact ⟨its, r, p.isList, z⟩
  | false =>
    obtain ⟨its, r, p, z⟩ := I.tuple (show SqT X.K H a xs from h)
    exact ⟨its, r, p, z⟩
theorem HoldB.inj {b : Bool} {h : Heap} {a : Addr} {x y : Array Value} (p : HoldB b h a x) (q : HoldB b h a y) : x = y := by
  cases b with
  | true =>
    obtain ⟨o, e1, _, n, d1⟩ := p
    obtain ⟨o', e2, _, n', d2⟩ := q
    rw [e1] at e2; cases e2; rw [d1] at d2; cases d2; rfl
  | false =>
    obtain ⟨o, e1, _, n, d1⟩ := p
    obtain ⟨o', e2, _, n', d2⟩ := q
    rw [e1] at e2; cases e2; rw [d1] at d2; cases d2; rfl
theorem drawB {prog : Program} {w : World} {A : Around} (b : Bool) (hh : A.handled = none) (it l : Addr) (hne : l ≠ it) (items : Array Value) :
    Draws prog w A it [it, l] items.size (fun i v => items[i]? = some v) (fun i h => IterB b h it l i ∧ HoldB b h l items) := by
  cases b with
  | true => exact Draws.list hh it l hne items
  | false => exact Draws.tuple hh it l hne items
theorem IterB.obj {b : Bool} {h : Heap} {it l : Addr} {i : Nat} (p : IterB b h it l i) : ∃ o, h.get? it = some o ∧ ∀ v, o.data ≠ .cell v := by
  cases b with
  | true => obtain ⟨o, e, _, d⟩ := p; exact ⟨o, e, fun v q => by rw [d] at q; cases q⟩
  | false => obtain ⟨o, e, _, d⟩ := p; exact ⟨o, e, fun v q => by rw [d] at q; cases q⟩
theorem IterB.at {b : Bool} {h h' : Heap} {it l : Addr} {i : Nat} (p : IterB b h it l i) (k : ∀ o, h.get? it = some o → h'.get? it = some o) : IterB b h' it l i := by
  cases b with
  | true => exact Heap.IsListIter.at p k
  | false => exact Heap.IsTupleIter.at p k
theorem IterB.new {b : Bool} {h : Heap} {it l : Addr} (e : h.get? it = some (iterO b l)) : IterB b h it l 0 := by
  cases b with
  | true => exact ⟨_, e, rfl, rfl⟩
  | false => exact ⟨_, e, rfl, rfl⟩
theorem beginsB (b : Bool) (l : Addr) (items : Array Value) : Begins (.ref l) (iterO b l) fun h => HoldB b h l items := by
  cases b with
  | true => exact begins_list l items
  | false => exact begins_tuple l items
theorem SqB.inj {X : Cx} {pins : List (Addr × Obj)} {σ : L2.St} {H : Hp} {s : Shared} {b : Bool} {a : Addr} {xs ys : List V} (I : Inv X pins σ H s) (h : SqB b X.K H a xs) (h' : SqB b X.K H a ys) : xs = ys := by
  cases b with
  | true => exact I.list_inj h h'
  | false => exact I.tuple_inj h h'

/-! ### zip of two -/
def ItzB (K : PySem.W.Frag) (k l : Bool) (a b : Addr) : L2.It :=
  ⟨fun i H => ∃ (xs ys : List V), SqB k K H a xs ∧ SqB l K H b ys ∧ i < xs.length ∧ i < ys.length,
    fun i H v H' => ∃ T x y, v = .ref T ∧ H T = none ∧ H' = upd H T (.tup [x, y]) ∧ ∀ xs ys, SqB k K H a xs → SqB l K H b ys → xs[i]? = some x ∧ ys[i]? = some y,
    fun i H => ∃ xs ys : List V, SqB k K H a xs ∧ SqB l K H b ys ∧ i = min xs.length ys.length⟩
theorem turn_zipB {P : Program} {w : World} {K : PySem.W.Frag} {k l : Bool} {a b z TI TO i1 i2 : Addr} (S : ZipSep2 z TI TO i1 i2 [i1, a] [i2, b]) (na : a ≠ i1) (nb : b ≠ i2) :
    TurnT P w K (ItzB K k l a b) [z, TI, TO, i1, i2] z (fun i h => IsZip h z TI TO .none ∧ IsTupOf2 h TI (.ref i1) (.ref i2) ∧ (∃ x y, IsTupOf2 h TO x y) ∧ IterB k h i1 a i ∧ IterB l h i2 b i) where
  mem := by simp
  obj := fun i h st c hc => by
    obtain ⟨hz, hTI, ⟨x, y, hTO⟩, h1, h2⟩ := st
    have e' : c = z ∨ c = TI ∨ c = TO ∨ c = i1 ∨ c = i2 := by simpa using hc
    rcases e' with q | q | q | q | q
    · rw [q]; exact ⟨_, hz, fun v q => nomatch q⟩
    · rw [q]; exact ⟨_, hTI, fun v q => nomatch q⟩
    · rw [q]; exact ⟨_, hTO, fun v q => nomatch q⟩
    · rw [q]; exact h1.obj
    · rw [q]; exact h2.obj
  keep := fun i h h' st k => by
    obtain ⟨hz, hTI, ⟨x, y, hTO⟩, h1, h2⟩ := st
    exact ⟨k z (by simp) _ hz, k TI (by simp) _ hTI, ⟨x, y, k TO (by simp) _ hTO⟩, h1.at fun o q => k i1 (by simp) o q, h2.at fun o q => k i2 (by simp) o q⟩
  item := by
    intro X hP hw hK hc i pins s σ H I hf st hg
    subst hP hw hK
    obtain ⟨hz, hTI, hTO, h1, h2⟩ := st
    obtain ⟨xs, ys, hqx, hqy, hx, hy⟩ := hg
    obtain ⟨its, rv, p, _⟩ := hqx.hold I
    obtain ⟨its2, rv2, p2, _⟩ := hqy.hold I
    have l1 := rv.length
    have l2 := rv2.length
    have hd : X.A.in1.handled = none := I.ok.hd hc
    refine ⟨_, _, _, _, _, _, WalksT.zipD2 S (drawB k hd i1 a na its.toArray) (drawB l hd i2 b nb its2.toArray), ?_, ⟨hz, hTI, hTO, ⟨h1, p⟩, h2, p2⟩, fun c hc => ?_, fun h' q => ?_, fun vals q => ?_⟩
    · simp only [List.size_toArray]; omega
    · have e' : c = z ∨ c = TO ∨ c = i1 ∨ c = i2 := by simpa using hc
      rcases e' with q | q | q | q <;> simp [q]
    · obtain ⟨q1, q2, q3, q4, q5⟩ := q
      exact ⟨q1, q2, q3, q4.1, q5.1⟩
    · obtain ⟨x1, x2, e1, e2, rfl⟩ := q
      obtain ⟨u, hu, ru⟩ := rv.get (i := i) (List.getElem?_eq_getElem hx)
      obtain ⟨u2, hu2, ru2⟩ := rv2.get (i := i) (List.getElem?_eq_getElem hy)
      rw [List.getElem?_toArray, hu] at e1
      rw [List.getElem?_toArray, hu2] at e2
      cases e1; cases e2
      refine ⟨[xs[i], ys[i]], .cons ru (.cons ru2 .nil), by show 2 ≤ sizeLine; decide, fun T hT => ⟨T, _, _, rfl, hT, rfl, fun xs' ys' g1 g2 => ?_⟩⟩
      have z1 := g1.inj I hqx
      have z2 := g2.inj I hqy
      subst z1 z2
      exact ⟨List.getElem?_eq_getElem hx, List.getElem?_eq_getElem hy⟩
  done := by
    intro X hP hw hK hc i pins s σ H I hf st hg
    subst hP hw hK
    obtain ⟨hz, hTI, hTO, h1, h2⟩ := st
    obtain ⟨xs, ys, hqx, hqy, he⟩ := hg
    obtain ⟨its, rv, p, _⟩ := hqx.hold I
    obtain ⟨its2, rv2, p2, _⟩ := hqy.hold I
    have l1 := rv.length
    have l2 := rv2.length
    have hd : X.A.in1.handled = none := I.ok.hd hc
    refine ⟨_, _, _, _, _, _, WalksT.zipD2 S (drawB k hd i1 a na its.toArray) (drawB l hd i2 b nb its2.toArray), ?_, ⟨hz, hTI, hTO, ⟨h1, p⟩, h2, p2⟩, fun c hc => ?_⟩
    · simp only [List.size_toArray]; omega
    · have e' : c = z ∨ c = TO ∨ c = i1 ∨ c = i2 := by simpa using hc
      rcases e' with q | q | q | q <;> simp [q]
  self := fun A i s Q E st h => wpAny_pyIter_zip st.1 h
def iZipB (K : PySem.W.Frag) (ta : TA) : TI := fun σ H R => ta σ H fun vs H1 => ∃ k l a b xs ys, vs = [.ref a, .ref b] ∧ SqB k K H1 a xs ∧ SqB l K H1 b ys ∧ R (ItzB K k l a b) H1
theorem fp_new {X : Cx} {pins : List (Addr × Obj)} {σ : L2.St} {H : Hp} {s s1 : Shared} (I : Inv X pins σ H s) (N : Nat) (hN : s.heap.objs.size = N) {c : Addr} (h : N ≤ c) : FpOk X pins H c := by
  subst hN
  exact I.fpOk h (I.hok.fresh h)
theorem pi_zipB {X : Cx} {e e2 : Expr} {ta : TA} {p pos tpos : Pos} {elts : List Expr} {kk : Nat} (hg : Gl X "zip") (hm : X.mg "zip" = none) (ha : PA X [e, e2] ta)
    (hs : starEach [e, e2] X.env = (false, eval e X.env) :: starEach [e2] X.env) (hpl : (backTo pos (starEach [e2] X.env)).any (·.1) = false) :
    PI X (.Tuple elts kk tpos) (.Call (.Name "zip" p) [e, e2] [] pos) (iZipB X.K ta) := by
  refine ⟨fun pins s σ H R I h => ?_⟩
  refine Call_ (ld_blt I hg hm PyProof.Rows.boot_zip (PyProof.Rows.callWith_type1 (thn (ha.run pos pins s σ H _ I h) fun us s1 ⟨vs, H1, I1, r1, q1⟩ => ?_) hs hpl))
  obtain ⟨k, l, a, b, xs, ys, ex, hqx, hqy, q⟩ := q1
  subst ex
  obtain ⟨u1, u2, rfl, r, r'⟩ := vals2 r1
  cases r
  cases r'
  obtain ⟨its, rv, p1, _⟩ := hqx.hold I1
  obtain ⟨its2, rv2, p2, _⟩ := hqy.hold I1
  have la : a < s1.heap.objs.size := by
    cases k with
    | true => obtain ⟨_, e, _⟩ := p1; exact Heap.lt_size e
    | false => obtain ⟨_, e, _⟩ := p1; exact Heap.lt_size e
  have lb : b < s1.heap.objs.size := by
    cases l with
    | true => obtain ⟨_, e, _⟩ := p2; exact Heap.lt_size e
    | false => obtain ⟨_, e, _⟩ := p2; exact Heap.lt_size e
  refine zip_begins2 (beginsB k a its.toArray) (beginsB l b its2.toArray) p1 p2 fun h' hz hTI hTO g1 g2 hsz hk => wpAny_pyIter_zip hz ?_
  have I2 : Inv X pins σ H1 { s1 with heap := h' } := I1.kept (t' := s1.toks) hk
  have S := zip_sep2 (N := s1.heap.objs.size) (fp1 := [a]) (fp2 := [b]) (fun c hc => by rw [List.mem_singleton.mp hc]; exact la) (fun c hc => by rw [List.mem_singleton.mp hc]; exact lb)
  refine ⟨s1.heap.objs.size + 4, [s1.heap.objs.size + 4, s1.heap.objs.size + 2, s1.heap.objs.size + 3, s1.heap.objs.size, s1.heap.objs.size + 1], _, _, H1, rfl, I2,
    (turn_zipB S (Nat.ne_of_lt la) (Nat.ne_of_lt (Nat.lt_succ_of_lt lb))).turn, ⟨hz, hTI, ⟨_, _, hTO⟩, .new g1, .new g2⟩, fun c hcm => ?_, q⟩
  have e' : c = s1.heap.objs.size + 4 ∨ c = s1.heap.objs.size + 2 ∨ c = s1.heap.objs.size + 3 ∨ c = s1.heap.objs.size ∨ c = s1.heap.objs.size + 1 := by simpa using hcm
  have hle : s1.heap.objs.size ≤ c := by
    rcases e' with z | z | z | z | z <;> rw [z] <;> first | exact Nat.le_add_right _ _ | exact Nat.le_refl _
  exact I1.fpOk hle (I1.hok.fresh hle)

/-! ### zip of three -/
def ItzC (K : PySem.W.Frag) (k l m : Bool) (a b c : Addr) : L2.It :=
  ⟨fun i H => ∃ (xs ys zs : List V), SqB k K H a xs ∧ SqB l K H b ys ∧ SqB m K H c zs ∧ i < xs.length ∧ i < ys.length ∧ i < zs.length,
    fun i H v H' => ∃ T x y z, v = .ref T ∧ H T = none ∧ H' = upd H T (.tup [x, y, z]) ∧ ∀ xs ys zs, SqB k K H a xs → SqB l K H b ys → SqB m K H c zs → xs[i]? = some x ∧ ys[i]? = some y ∧ zs[i]? = some z,
    fun i H => ∃ xs ys zs : List V, SqB k K H a xs ∧ SqB l K H b ys ∧ SqB m K H c zs ∧ i = min (min xs.length ys.length) zs.length⟩
theorem turn_zipC {P : Program} {w : World} {K : PySem.W.Frag} {k l m : Bool} {a b d z TI TO i1 i2 i3 : Addr} (S : ZipSep3 z TI TO i1 i2 i3 [i1, a] [i2, b] [i3, d]) (na : a ≠ i1) (nb : b ≠ i2) (nd : d ≠ i3) :
    TurnT P w K (ItzC K k l m a b d) [z, TI, TO, i1, i2, i3] z (fun i h => IsZip h z TI TO .none ∧ IsTupOf3 h TI (.ref i1) (.ref i2) (.ref i3) ∧ (∃ x y u, IsTupOf3 h TO x y u) ∧ IterB k h i1 a i ∧ IterB l h i2 b i ∧ IterB m h i3 d i) where
  mem := by simp
  obj := fun i h st c hc => by
    obtain ⟨hz, hTI, ⟨x, y, u, hTO⟩, h1, h2, h3⟩ := st
    have e' : c = z ∨ c = TI ∨ c = TO ∨ c = i1 ∨ c = i2 ∨ c = i3 := by simpa using hc
    rcases e' with q | q | q | q | q | q
    · rw [q]; exact ⟨_, hz, fun v q => nomatch q⟩
    · rw [q]; exact ⟨_, hTI, fun v q => nomatch q⟩
    · rw [q]; exact ⟨_, hTO, fun v q => nomatch q⟩
    · rw [q]; exact h1.obj
    · rw [q]; exact h2.obj
    · rw [q]; exact h3.obj
  keep := fun i h h' st k => by
    obtain ⟨hz, hTI, ⟨x, y, u, hTO⟩, h1, h2, h3⟩ := st
    exact ⟨k z (by simp) _ hz, k TI (by simp) _ hTI, ⟨x, y, u, k TO (by simp) _ hTO⟩, h1.at fun o q => k i1 (by simp) o q, h2.at fun o q => k i2 (by simp) o q, h3.at fun o q => k i3 (by simp) o q⟩
  item := by
    intro X hP hw hK hc i pins s σ H I hf st hg
    subst hP hw hK
    obtain ⟨hz, hTI, hTO, h1, h2, h3⟩ := st
    obtain ⟨xs, ys, zs, hqx, hqy, hqz, hx, hy, hzz⟩ := hg
    obtain ⟨its, rv, p, _⟩ := hqx.hold I
    obtain ⟨its2, rv2, p2, _⟩ := hqy.hold I
    obtain ⟨its3, rv3, p3, _⟩ := hqz.hold I
    have l1 := rv.length
    have l2 := rv2.length
    have l3 := rv3.length
    have hd : X.A.in1.handled = none := I.ok.hd hc
    refine ⟨_, _, _, _, _, _, WalksT.zipD3 S (drawB k hd i1 a na its.toArray) (drawB l hd i2 b nb its2.toArray) (drawB m hd i3 d nd its3.toArray), ?_, ⟨hz, hTI, hTO, ⟨h1, p⟩, ⟨h2, p2⟩, h3, p3⟩, fun c hc => ?_, fun h' q => ?_, fun vals q => ?_⟩
    · simp only [List.size_toArray]; omega
    · have e' : c = z ∨ c = TO ∨ c = i1 ∨ c = i2 ∨ c = i3 := by simpa using hc
      rcases e' with q | q | q | q | q <;> simp [q]
    · obtain ⟨q1, q2, q3, q4, q5, q6⟩ := q
      exact ⟨q1, q2, q3, q4.1, q5.1, q6.1⟩
    · obtain ⟨x1, x2, x3, e1, e2, e3, rfl⟩ := q
      obtain ⟨u, hu, ru⟩ := rv.get (i := i) (List.getElem?_eq_getElem hx)
      obtain ⟨u2, hu2, ru2⟩ := rv2.get (i := i) (List.getElem?_eq_getElem hy)
      obtain ⟨u3, hu3, ru3⟩ := rv3.get (i := i) (List.getElem?_eq_getElem hzz)
      rw [List.getElem?_toArray, hu] at e1
      rw [List.getElem?_toArray, hu2] at e2
      rw [List.getElem?_toArray, hu3] at e3
      cases e1; cases e2; cases e3
      refine ⟨[xs[i], ys[i], zs[i]], .cons ru (.cons ru2 (.cons ru3 .nil)), by show 3 ≤ sizeLine; decide, fun T hT => ⟨T, _, _, _, rfl, hT, rfl, fun xs' ys' zs' g1 g2 g3 => ?_⟩⟩
      have z1 := g1.inj I hqx
      have z2 := g2.inj I hqy
      have z3 := g3.inj I hqz
      subst z1 z2 z3
      exact ⟨List.getElem?_eq_getElem hx, List.getElem?_eq_getElem hy, List.getElem?_eq_getElem hzz⟩
  done := by
    intro X hP hw hK hc i pins s σ H I hf st hg
    subst hP hw hK
    obtain ⟨hz, hTI, hTO, h1, h2, h3⟩ := st
    obtain ⟨xs, ys, zs, hqx, hqy, hqz, he⟩ := hg
    obtain ⟨its, rv, p, _⟩ := hqx.hold I
    obtain ⟨its2, rv2, p2, _⟩ := hqy.hold I
    obtain ⟨its3, rv3, p3, _⟩ := hqz.hold I
    have l1 := rv.length
    have l2 := rv2.length
    have l3 := rv3.length
    have hd : X.A.in1.handled = none := I.ok.hd hc
    refine ⟨_, _, _, _, _, _, WalksT.zipD3 S (drawB k hd i1 a na its.toArray) (drawB l hd i2 b nb its2.toArray) (drawB m hd i3 d nd its3.toArray), ?_, ⟨hz, hTI, hTO, ⟨h1, p⟩, ⟨h2, p2⟩, h3, p3⟩, fun c hc => ?_⟩
    · simp only [List.size_toArray]; omega
    · have e' : c = z ∨ c = TO ∨ c = i1 ∨ c = i2 ∨ c = i3 := by simpa using hc
      rcases e' with q | q | q | q | q <;> simp [q]
  self := fun A i s Q E st h => wpAny_pyIter_zip st.1 h
theorem vals3 {x y z : V} {us : List Value} (r : Vals [x, y, z] us) : ∃ u v w, us = [u, v, w] ∧ RelV x u ∧ RelV y v ∧ RelV z w := by
  cases r with
  | cons r1 r =>
    cases r with
    | cons r2 r =>
      cases r with
      | cons r3 r => cases r; exact ⟨_, _, _, rfl, r1, r2, r3⟩
theorem HoldB.lt {b : Bool} {h : Heap} {a : Addr} {x : Array Value} (p : HoldB b h a x) : a < h.objs.size := by
  cases b with
  | true => obtain ⟨_, e, _⟩ := p; exact Heap.lt_size e
  | false => obtain ⟨_, e, _⟩ := p; exact Heap.lt_size e
def iZipC (K : PySem.W.Frag) (ta : TA) : TI := fun σ H R => ta σ H fun vs H1 => ∃ k l m a b c xs ys zs, vs = [.ref a, .ref b, .ref c] ∧ SqB k K H1 a xs ∧ SqB l K H1 b ys ∧ SqB m K H1 c zs ∧ R (ItzC K k l m a b c) H1
theorem pi_zipC {X : Cx} {e e2 e3 : Expr} {ta : TA} {p pos tpos : Pos} {elts : List Expr} {kk : Nat} (hg : Gl X "zip") (hm : X.mg "zip" = none) (ha : PA X [e, e2, e3] ta)
    (hs : starEach [e, e2, e3] X.env = (false, eval e X.env) :: starEach [e2, e3] X.env) (hpl : (backTo pos (starEach [e2, e3] X.env)).any (·.1) = false) :
    PI X (.Tuple elts kk tpos) (.Call (.Name "zip" p) [e, e2, e3] [] pos) (iZipC X.K ta) := by
  refine ⟨fun pins s σ H R I h => ?_⟩
  refine Call_ (ld_blt I hg hm PyProof.Rows.boot_zip (PyProof.Rows.callWith_type1 (thn (ha.run pos pins s σ H _ I h) fun us s1 ⟨vs, H1, I1, r1, q1⟩ => ?_) hs hpl))
  obtain ⟨k, l, m, a, b, d, xs, ys, zs, ex, hqx, hqy, hqz, q⟩ := q1
  subst ex
  obtain ⟨u1, u2, u3, rfl, r, r', r''⟩ := vals3 r1
  cases r
  cases r'
  cases r''
  obtain ⟨its, rv, p1, _⟩ := hqx.hold I1
  obtain ⟨its2, rv2, p2, _⟩ := hqy.hold I1
  obtain ⟨its3, rv3, p3, _⟩ := hqz.hold I1
  have la := p1.lt
  have lb := p2.lt
  have ld := p3.lt
  refine zip_begins3 (beginsB k a its.toArray) (beginsB l b its2.toArray) (beginsB m d its3.toArray) p1 p2 p3 fun h' hz hTI hTO g1 g2 g3 hsz hk => wpAny_pyIter_zip hz ?_
  have I2 : Inv X pins σ H1 { s1 with heap := h' } := I1.kept (t' := s1.toks) hk
  have S := zip_sep3 (N := s1.heap.objs.size) (fp1 := [a]) (fp2 := [b]) (fp3 := [d]) (fun c hc => by rw [List.mem_singleton.mp hc]; exact la) (fun c hc => by rw [List.mem_singleton.mp hc]; exact lb) (fun c hc => by rw [List.mem_singleton.mp hc]; exact ld)
  refine ⟨s1.heap.objs.size + 5, [s1.heap.objs.size + 5, s1.heap.objs.size + 3, s1.heap.objs.size + 4, s1.heap.objs.size, s1.heap.objs.size + 1, s1.heap.objs.size + 2], _, _, H1, rfl, I2,
    (turn_zipC S (Nat.ne_of_lt la) (Nat.ne_of_lt (Nat.lt_succ_of_lt lb)) (Nat.ne_of_lt (Nat.lt_succ_of_lt (Nat.lt_succ_of_lt ld)))).turn, ⟨hz, hTI, ⟨_, _, _, hTO⟩, .new g1, .new g2, .new g3⟩, fun c hcm => ?_, q⟩
  have e' : c = s1.heap.objs.size + 5 ∨ c = s1.heap.objs.size + 3 ∨ c = s1.heap.objs.size + 4 ∨ c = s1.heap.objs.size ∨ c = s1.heap.objs.size + 1 ∨ c = s1.heap.objs.size + 2 := by simpa using hcm
  have hle : s1.heap.objs.size ≤ c := by
    rcases e' with z | z | z | z | z | z <;> rw [z] <;> first | exact Nat.le_add_right _ _ | exact Nat.le_refl _
  exact I1.fpOk hle (I1.hok.fresh hle)
end Mn
end
section
set_option linter.all false
set_option autoImplicit false
set_option maxRecDepth 100000
/-! Mini: enumerate over a list or a tuple. -/
namespace PySem
open Sem (wp)
set_option maxHeartbeats 1000000 in
theorem meets_enumerate_newG {v : Value} {o : Obj} {H : Heap → Prop} (B : Begins v o H) :
    Meets (Builtin.«enumerate.__new__» ⟨[.type "enumerate", v], []⟩) (fun _ R s => H s.heap ∧
      R (.ok (.ret (.ref (s.heap.push o).objs.size))) { s with heap := (s.heap.push o).push { cls := .type "enumerate", data := .fields #[.none, .bool false, .ref s.heap.objs.size, rawInt 0, .none, .none] } }) :=
  .of_wp fun prog w A R s h => by
    obtain ⟨hp, g, d, tk, os⟩ := s; obtain ⟨h1, h⟩ := h
    have hsub := sub_enumerate
    have q1 : ∀ {A' : Around} {E : Value → Shared → Prop} {Q : Value → Shared → Prop}, Q (.ref hp.objs.size) ⟨hp.push o, g, d, tk, os⟩ → wpAny (model prog w) A' (pyIter v) Q E ⟨hp, g, d, tk, os⟩ :=
      fun q => B.iter prog w _ _ ⟨hp, g, d, tk, os⟩ _ h1 q
    wp_walk using q1
    refine wpAny_stack_any fun st => wpAny_pure ?_
    split
    · rename_i c _ _ _ _ _
      cases (c == Value.type "enumerate")
      · wp_walk using q1
        exact ⟨_, rfl, h⟩
      · wp_walk using q1
        exact ⟨_, rfl, h⟩
    · wp_walk using q1
      exact ⟨_, rfl, h⟩
theorem enum_begins1 {prog : Program} {w : World} {A : Around} {E : Value → Shared → Prop} {s : Shared} {v : Value} {o : Obj} {H : Heap → Prop} {Q : Value → Shared → Prop} (B : Begins v o H) (h1 : H s.heap)
    (h : ∀ h', IsEnum h' (s.heap.objs.size + 1) s.heap.objs.size 0 .none → h'.get? s.heap.objs.size = some o → h'.objs.size = s.heap.objs.size + 2 →
      (∀ b o, s.heap.get? b = some o → h'.get? b = some o) → Q (.ref (s.heap.objs.size + 1)) { s with heap := h' }) :
    wpAny (model prog w) A (call (.type "enumerate") [v]) Q E s := by
  refine callType_new F.called_enumerate (by decide) (F.typeCall_enumerate_1 _) (F.newCall_enumerate_1 _) (fun obj => F.args_object_init_2 obj _) F.entry_enumerate_new
    (meets_enumerate_newG B) ⟨h1, ?_⟩
  have hz : (s.heap.push o).objs.size = s.heap.objs.size + 1 := Heap.size_push ..
  show _ ∧ _
  rw [hz]
  have he : IsEnum ((s.heap.push o).push { cls := .type "enumerate", data := .fields #[.none, .bool false, .ref s.heap.objs.size, rawInt 0, .none, .none] }) (s.heap.objs.size + 1) s.heap.objs.size 0 .none := by
    have := Heap.get?_push_size (s.heap.push o) (o := { cls := .type "enumerate", data := .fields #[.none, .bool false, .ref s.heap.objs.size, rawInt 0, .none, .none] }) rfl
    rw [hz] at this; exact this
  refine ⟨⟨_, he, rfl⟩, h _ he (Heap.get?_push_of_some _ (Heap.get?_push_size _ B.free)) (by rw [Heap.size_push, hz]) fun b o x => Heap.get?_push_of_some _ (Heap.get?_push_of_some _ x)⟩
end PySem
namespace Mn
open PySem PySem.Spec PyProof.Rows L2
def IteB (K : PySem.W.Frag) (k : Bool) (a : Addr) : L2.It :=
  ⟨fun i H => ∃ xs : List V, SqB k K H a xs ∧ i < xs.length,
    fun i H v H' => ∃ T x, v = .ref T ∧ H T = none ∧ H' = upd H T (.tup [.int (i : Nat), x]) ∧ ∀ xs, SqB k K H a xs → xs[i]? = some x,
    fun i H => ∃ xs : List V, SqB k K H a xs ∧ i = xs.length⟩
theorem turn_enumB {P : Program} {w : World} {K : PySem.W.Frag} {k : Bool} {a e it : Addr} (na : a ≠ it) (ne : e ≠ it) (nae : a ≠ e) :
    TurnT P w K (IteB K k a) [e, it] e (fun i h => (∃ old, IsEnum h e it (i : Nat) old) ∧ IterB k h it a i) where
  mem := by simp
  obj := fun i h st c hc => by
    obtain ⟨⟨old, he⟩, h1⟩ := st
    have e' : c = e ∨ c = it := by simpa using hc
    rcases e' with q | q
    · rw [q]; exact ⟨_, he, fun v q => nomatch q⟩
    · rw [q]; exact h1.obj
  keep := fun i h h' st k => by
    obtain ⟨⟨old, he⟩, h1⟩ := st
    exact ⟨⟨old, k e (by simp) _ he⟩, h1.at fun o q => k it (by simp) o q⟩
  item := by
    intro X hP hw hK hc i pins s σ H I hf st hg
    subst hP hw hK
    obtain ⟨he, h1⟩ := st
    obtain ⟨xs, hqx, hx⟩ := hg
    obtain ⟨its, rv, p, _⟩ := hqx.hold I
    have l1 := rv.length
    have hd : X.A.in1.handled = none := I.ok.hd hc
    refine ⟨_, _, _, _, _, _, WalksT.enumerateD (drawB k hd it a na its.toArray) e ne (by simp; exact ⟨ne, Ne.symm nae⟩) (by simp), ?_, ⟨he, h1, p⟩, fun c hc => hc, fun h' q => ?_, fun vals q => ?_⟩
    · simp only [List.size_toArray]; omega
    · exact ⟨q.1, q.2.1⟩
    · obtain ⟨t, x1, e1, rfl⟩ := q
      obtain ⟨u, hu, ru⟩ := rv.get (i := i) (List.getElem?_eq_getElem hx)
      rw [List.getElem?_toArray, hu] at e1
      cases e1
      refine ⟨[.int (i : Nat), xs[i]], .cons ⟨t, rfl⟩ (.cons ru .nil), by show 2 ≤ sizeLine; decide, fun T hT => ⟨T, _, rfl, hT, rfl, fun xs' g1 => ?_⟩⟩
      have z1 := g1.inj I hqx
      subst z1
      exact List.getElem?_eq_getElem hx
  done := by
    intro X hP hw hK hc i pins s σ H I hf st hg
    subst hP hw hK
    obtain ⟨he, h1⟩ := st
    obtain ⟨xs, hqx, hx⟩ := hg
    obtain ⟨its, rv, p, _⟩ := hqx.hold I
    have l1 := rv.length
    have hd : X.A.in1.handled = none := I.ok.hd hc
    refine ⟨_, _, _, _, _, _, WalksT.enumerateD (drawB k hd it a na its.toArray) e ne (by simp; exact ⟨ne, Ne.symm nae⟩) (by simp), ?_, ⟨he, h1, p⟩, fun c hc => hc⟩
    simp only [List.size_toArray]; omega
  self := fun A i s Q E st h => let ⟨⟨_, he⟩, _⟩ := st; wpAny_pyIter_enum he h
def iEnumB (K : PySem.W.Frag) (ta : TA) : TI := fun σ H R => ta σ H fun vs H1 => ∃ k a xs, vs = [.ref a] ∧ SqB k K H1 a xs ∧ R (IteB K k a) H1
theorem pi_enumB {X : Cx} {e : Expr} {ta : TA} {p pos tpos : Pos} {elts : List Expr} {kk : Nat} (hg : Gl X "enumerate") (hm : X.mg "enumerate" = none) (ha : PA X [e] ta) (hs : starEach [e] X.env = [(false, eval e X.env)]) :
    PI X (.Tuple elts kk tpos) (.Call (.Name "enumerate" p) [e] [] pos) (iEnumB X.K ta) := by
  refine ⟨fun pins s σ H R I h => ?_⟩
  refine Call_ (ld_blt I hg hm boot_enumerate (PyProof.Rows.callWith_type1 (thn (ha.run pos pins s σ H _ I h) fun us s1 ⟨vs, H1, I1, r1, q1⟩ => ?_) hs rfl))
  obtain ⟨k, a, xs, ex, hqx, q⟩ := q1
  subst ex
  obtain ⟨u, rfl, r⟩ := vals1 r1
  cases r
  obtain ⟨its, rv, p1, _⟩ := hqx.hold I1
  have la := p1.lt
  refine enum_begins1 (beginsB k a its.toArray) p1 fun h' he g1 hsz hk => wpAny_pyIter_enum he ?_
  have I2 : Inv X pins σ H1 { s1 with heap := h' } := I1.kept (t' := s1.toks) hk
  refine ⟨s1.heap.objs.size + 1, [s1.heap.objs.size + 1, s1.heap.objs.size], _, _, H1, rfl, I2,
    (turn_enumB (Nat.ne_of_lt la) (Nat.succ_ne_self _) (Nat.ne_of_lt (Nat.lt_succ_of_lt la))).turn, ⟨⟨_, he⟩, .new g1⟩, fun b hb => ?_, q⟩
  have e' : b = s1.heap.objs.size + 1 ∨ b = s1.heap.objs.size := by simpa using hb
  have hle : s1.heap.objs.size ≤ b := by
    rcases e' with z | z <;> rw [z] <;> first | exact Nat.le_add_right _ _ | exact Nat.le_refl _
  exact I1.fpOk hle (I1.hok.fresh hle)
end Mn
end
section
set_option linter.all false
set_option autoImplicit false
set_option maxRecDepth 100000
/-! Mini: list(zip(a, b)). -/
namespace PySem
open Sem (wp)
section
variable {prog : Program} {w : World} {A : Around} {E : Value → Shared → Prop} {s : Shared} {z TI TO i1 i2 T : Addr} {f : Bool} {oT : Obj} {fp1 fp2 : List Addr} {n1 n2 i : Nat} {P1 P2 : Nat → Value → Prop} {St1 St2 : Nat → Heap → Prop}
theorem zipH_item {Q : Value → Shared → Prop} (S : ZipSep2 z TI TO i1 i2 fp1 fp2) (D1 : Draws prog w A i1 fp1 n1 P1 St1) (D2 : Draws prog w A i2 fp2 n2 P2 St2)
    (hz : IsZipHeld s.heap z TI TO T f) (hT : s.heap.get? T = some oT) (hTI : IsTupOf2 s.heap TI (.ref i1) (.ref i2)) (st1 : St1 i s.heap) (st2 : St2 i s.heap) (hlt1 : i < n1) (hlt2 : i < n2)
    (hQ : ∀ x1 x2 h' tk, P1 i x1 → P2 i x2 → IsZipHeld h' z TI TO T true → St1 (i + 1) h' → St2 (i + 1) h' → IsTupOf2 h' s.heap.objs.size x1 x2 → h'.objs.size = s.heap.objs.size + 1 →
      (∀ c o, c ≠ z → c ≠ i1 → c ≠ i2 → s.heap.get? c = some o → h'.get? c = some o) → Q (.ref s.heap.objs.size) { s with heap := h', toks := tk }) :
    wpAny (model prog w) A (Builtin.«zip.__next__» ⟨[.ref z], []⟩) (fun fin s' => ∃ v, fin = .done (.ret v) ∧ Q v s') E s := by
  obtain ⟨hp, g, d, tk0, os⟩ := s
  show wpAny _ _ (field (.ref z) 2 >>= _) _ _ _
  refine wpAny_bind (wpAny_field hz rfl (x := .bool false) rfl ?_)
  show wpAny _ _ (field (.ref z) 3 >>= _) _ _ _
  refine wpAny_bind (wpAny_field hz rfl (x := .ref TI) rfl ?_)
  refine wpAny_bind (wpAny_seqItems hTI rfl ?_)
  show wpAny _ _ (Builtin.SmallTypes.ownedTupleIsFree (.ref z) >>= _) _ _ _
  refine wpAny_bind (wpAny_tupleHeld_zip hz hT fun h₁ hz₁ hs₁ => ?_)
  replace hs₁ : Heap.SameBut z hp h₁ := hs₁
  simp only [Bool.false_eq_true, if_false]
  refine wpAny_bind ?_
  rw [← Array.forIn_toList]
  simp only [List.forIn_cons, List.forIn_nil]
  refine wpAny_bind (wpAny_bind (wpAny_holding ?_))
  show wpAny _ _ (Builtin.SmallTypes.nextOf (.ref i1) >>= _) _ _ ⟨h₁, g, d, tk0, os⟩
  refine wpAny_bind (D1.item i _ _ _ hlt1 (D1.over st1 hs₁ S.zf1) fun x1 p1 tk1 hx1 sn1 hp1 => wpAny_pure ?_)
  replace hp1 : Heap.SameBut i1 h₁ p1 := hp1
  refine wpAny_pure ?_
  refine wpAny_bind (wpAny_bind (wpAny_holding ?_))
  show wpAny _ _ (Builtin.SmallTypes.nextOf (.ref i2) >>= _) _ _ ⟨p1, g, d, tk1, os⟩
  refine wpAny_bind (D2.item i _ _ _ hlt2 (D2.over (D2.over st2 hs₁ S.zf2) hp1 S.sep1_2) fun x2 p2 tk2 hx2 sn2 hp2 => wpAny_pure ?_)
  replace hp2 : Heap.SameBut i2 p1 p2 := hp2
  refine wpAny_pure (wpAny_pure ?_)
  show wpAny _ _ (newTuple [x1, x2] >>= _) _ _ _
  refine wpAny_bind (wpAny_newTuple ?_)
  have hsz : p2.objs.size = hp.objs.size := by rw [hp2.1, hp1.1, hs₁.1]
  have hz₃ : IsZipHeld p2 z TI TO T true := hp2.extBut _ _ S.zi2 (hp1.extBut _ _ S.zi1 hz₁)
  have hk : ∀ c o, c ≠ z → c ≠ i1 → c ≠ i2 → hp.get? c = some o → p2.get? c = some o := fun c o c1 c2 c3 e => hp2.extBut _ _ c3 (hp1.extBut _ _ c2 (hs₁.extBut _ _ c1 e))
  have h1₃ : St1 (i + 1) p2 := D1.over sn1 hp2 S.sep2_1
  refine wpAny_pure ⟨_, rfl, ?_⟩
  show Q (.ref p2.objs.size) _
  have hpp : IsTupOf2 (p2.push { cls := .type "tuple", data := .seq #[x1, x2] }) p2.objs.size x1 x2 := Heap.get?_push_size _ rfl
  have hz4 : (p2.push { cls := .type "tuple", data := .seq #[x1, x2] }).objs.size = p2.objs.size + 1 := Heap.size_push ..
  rw [hsz] at hpp hz4 ⊢
  exact hQ x1 x2 _ tk2 hx1 hx2 (Heap.get?_push_of_some _ hz₃) (D1.frame _ _ _ h1₃ fun b _ o e => Heap.get?_push_of_some _ e) (D2.frame _ _ _ sn2 fun b _ o e => Heap.get?_push_of_some _ e) hpp hz4 fun c o c1 c2 c3 e => Heap.get?_push_of_some _ (hk c o c1 c2 c3 e)
theorem zipH_end {Q : Fin → Shared → Prop} (S : ZipSep2 z TI TO i1 i2 fp1 fp2) (D1 : Draws prog w A i1 fp1 n1 P1 St1) (D2 : Draws prog w A i2 fp2 n2 P2 St2)
    (hz : IsZipHeld s.heap z TI TO T f) (hT : s.heap.get? T = some oT) (hTI : IsTupOf2 s.heap TI (.ref i1) (.ref i2)) (st1 : St1 i s.heap) (st2 : St2 i s.heap) (hle1 : i ≤ n1) (hle2 : i ≤ n2) (hend : i = n1 ∨ i = n2)
    (hE : ∀ h' tk e, (∀ c o, c ≠ z → c ≠ i1 → c ≠ i2 → s.heap.get? c = some o → h'.get? c = some o) → (∃ o, h'.get? e = some o ∧ o.cls = .type "StopIteration") → E (.ref e) { s with heap := h', toks := tk }) :
    wpAny (model prog w) A (Builtin.«zip.__next__» ⟨[.ref z], []⟩) Q E s := by
  obtain ⟨hp, g, d, tk0, os⟩ := s
  show wpAny _ _ (field (.ref z) 2 >>= _) _ _ _
  refine wpAny_bind (wpAny_field hz rfl (x := .bool false) rfl ?_)
  show wpAny _ _ (field (.ref z) 3 >>= _) _ _ _
  refine wpAny_bind (wpAny_field hz rfl (x := .ref TI) rfl ?_)
  refine wpAny_bind (wpAny_seqItems hTI rfl ?_)
  show wpAny _ _ (Builtin.SmallTypes.ownedTupleIsFree (.ref z) >>= _) _ _ _
  refine wpAny_bind (wpAny_tupleHeld_zip hz hT fun h₁ hz₁ hs₁ => ?_)
  replace hs₁ : Heap.SameBut z hp h₁ := hs₁
  simp only [Bool.false_eq_true, if_false]
  refine wpAny_bind ?_
  rw [← Array.forIn_toList]
  simp only [List.forIn_cons, List.forIn_nil]
  refine wpAny_bind (wpAny_bind (wpAny_holding ?_))
  show wpAny _ _ (Builtin.SmallTypes.nextOf (.ref i1) >>= _) _ _ ⟨h₁, g, d, tk0, os⟩
  by_cases hlt1 : i < n1
  · refine wpAny_bind (D1.item i _ _ _ hlt1 (D1.over st1 hs₁ S.zf1) fun x1 p1 tk1 hx1 sn1 hp1 => wpAny_pure ?_)
    replace hp1 : Heap.SameBut i1 h₁ p1 := hp1
    have hi2 : i = n2 := by omega
    refine wpAny_pure ?_
    refine wpAny_bind (wpAny_bind (wpAny_holding ?_))
    show wpAny _ _ (Builtin.SmallTypes.nextOf (.ref i2) >>= _) _ _ ⟨p1, g, d, tk1, os⟩
    refine wpAny_bind (D2.done ⟨p1, g, d, tk1, os⟩ _ _ (by rw [← hi2]; exact D2.over (D2.over st2 hs₁ S.zf2) hp1 S.sep1_2) fun q e hq he => ?_)
    replace hq : Heap.ExtBut i2 p1 q := hq
    exact hE q tk1 e (fun c o c1 c2 c3 x => hq _ _ c3 (hp1.extBut _ _ c2 (hs₁.extBut _ _ c1 x))) he
  · have hi1 : i = n1 := by omega
    refine wpAny_bind (D1.done ⟨h₁, g, d, tk0, os⟩ _ _ (by rw [← hi1]; exact D1.over st1 hs₁ S.zf1) fun q e hq he => ?_)
    replace hq : Heap.ExtBut i1 h₁ q := hq
    exact hE q tk0 e (fun c o c1 c2 c3 x => hq _ _ c2 (hs₁.extBut _ _ c1 x)) he
/-- what stands of a zip between its turns: nothing is out, or a tuple T that lives -/
def ZipOut (h : Heap) (z TI TO : Addr) (live : Addr → Prop) : Prop := (IsZip h z TI TO .none ∧ ∃ a1 a2, IsTupOf2 h TO a1 a2) ∨ ∃ T f oT, IsZipHeld h z TI TO T f ∧ h.get? T = some oT ∧ live T
theorem zipO_item {live : Addr → Prop} {Q : Option Value → Shared → Prop} (S : ZipSep2 z TI TO i1 i2 fp1 fp2) (D1 : Draws prog w A.in1 i1 fp1 n1 P1 St1) (D2 : Draws prog w A.in1 i2 fp2 n2 P2 St2)
    (hz : ZipOut s.heap z TI TO live) (hTI : IsTupOf2 s.heap TI (.ref i1) (.ref i2)) (st1 : St1 i s.heap) (st2 : St2 i s.heap) (hlt1 : i < n1) (hlt2 : i < n2) (hlive : ∀ T, live T → T ≠ z ∧ T ≠ i1 ∧ T ≠ i2)
    (hQ : ∀ x1 x2 h' tk, P1 i x1 → P2 i x2 → (∃ T f oT, IsZipHeld h' z TI TO T f ∧ h'.get? T = some oT ∧ (live T ∨ T = s.heap.objs.size)) → St1 (i + 1) h' → St2 (i + 1) h' → IsTupOf2 h' s.heap.objs.size x1 x2 → h'.objs.size = s.heap.objs.size + 1 →
      (∀ c o, c ≠ z → c ≠ TO → c ≠ i1 → c ≠ i2 → s.heap.get? c = some o → h'.get? c = some o) → Q (some (.ref s.heap.objs.size)) { s with heap := h', toks := tk }) :
    wpAny (model prog w) A (pyNext (.ref z)) Q E s := by
  rcases hz with ⟨hz, a1, a2, hTO⟩ | ⟨T, f, oT, hz, hT, hl⟩
  · exact wpAny_pyNext_zipD2_item S D1 D2 hz hTI hTO st1 st2 hlt1 hlt2 fun x1 x2 h' tk y1 y2 b1 b2 d1 d2 b5 b6 b7 => hQ x1 x2 h' tk y1 y2 ⟨_, false, _, b1, b5, .inr rfl⟩ d1 d2 b5 b6 b7
  · have hTy : s.TypeIs (.ref z) "zip" := ⟨_, hz, rfl⟩
    obtain ⟨n1', n2', n3'⟩ := hlive T hl
    unfold pyNext
    exact wpAny_bind (wpAny_attempt (wpAny_callSpecial?_slot (name := Str.ofString "__next__") hTy F.slot_zip_next
      (wpAny_call_entry F.slot_zip_next hTy F.entry_zip_next
        (zipH_item S D1 D2 hz hT hTI st1 st2 hlt1 hlt2 fun x1 x2 h' tk y1 y2 b1 d1 d2 b5 b6 b7 => wpAny_pure (hQ x1 x2 h' tk y1 y2 ⟨T, true, oT, b1, b7 _ _ n1' n2' n3' hT, .inl hl⟩ d1 d2 b5 b6 fun c o c1 _ c3 c4 e => b7 c o c1 c3 c4 e)) (F.args_zip_next_1 _))))
theorem zipO_end {live : Addr → Prop} {Q : Option Value → Shared → Prop} (S : ZipSep2 z TI TO i1 i2 fp1 fp2) (D1 : Draws prog w A.in1 i1 fp1 n1 P1 St1) (D2 : Draws prog w A.in1 i2 fp2 n2 P2 St2)
    (hz : ZipOut s.heap z TI TO live) (hTI : IsTupOf2 s.heap TI (.ref i1) (.ref i2)) (st1 : St1 i s.heap) (st2 : St2 i s.heap) (hle1 : i ≤ n1) (hle2 : i ≤ n2) (hend : i = n1 ∨ i = n2)
    (hQ : ∀ h' tk, (∀ c o, c ≠ z → c ≠ TO → c ≠ i1 → c ≠ i2 → s.heap.get? c = some o → h'.get? c = some o) → Q none { s with heap := h', toks := tk }) :
    wpAny (model prog w) A (pyNext (.ref z)) Q E s := by
  rcases hz with ⟨hz, a1, a2, hTO⟩ | ⟨T, f, oT, hz, hT, hl⟩
  · exact wpAny_pyNext_zipD2_end S D1 D2 hz hTI hTO st1 st2 hle1 hle2 hend hQ
  · have hTy : s.TypeIs (.ref z) "zip" := ⟨_, hz, rfl⟩
    unfold pyNext
    refine wpAny_bind (wpAny_attempt (wpAny_callSpecial?_slot (name := Str.ofString "__next__") hTy F.slot_zip_next
      (wpAny_call_entry F.slot_zip_next hTy F.entry_zip_next (zipH_end S D1 D2 hz hT hTI st1 st2 hle1 hle2 hend fun h' tk e hk he => ?_) (F.args_zip_next_1 _))))
    obtain ⟨o, ho, hc⟩ := he
    refine wpAny_bind (wpAny_isInstance (T := "StopIteration") (b := true) ⟨o, ho, hc⟩ isSubtype_stop ?_)
    exact wpAny_pure (hQ _ _ fun c o c1 _ c3 c4 e => hk c o c1 c3 c4 e)
end
end PySem
namespace Mn
open PySem PySem.Spec PyProof.Rows L2
theorem zip_no_len : typeLookup (.type "zip") "__len__" = pure none := by rw [typeLookup_type, builtinLookup_eq_fast]; kernel_rfl
theorem zip_no_hint : typeLookup (.type "zip") "__length_hint__" = pure none := by rw [typeLookup_type, builtinLookup_eq_fast]; kernel_rfl
theorem SqB.mono {k : Bool} {K : PySem.W.Frag} {H H' : Hp} {a : Addr} {xs : List V} (h : SqB k K H a xs) (m : ∀ o, H a = some o → H' a = some o) : SqB k K H' a xs := by
  cases k with
  | true =>
    rcases (show SqL K H a xs from h) with (h | ⟨o, h⟩) | h
    · exact show SqL K H' a xs from .inl (.inl (m _ h))
    · exact show SqL K H' a xs from .inl (.inr ⟨o, m _ h⟩)
    · exact show SqL K H' a xs from .inr h
  | false =>
    rcases (show SqT K H a xs from h) with (h | ⟨o, h⟩) | h
    · exact show SqT K H' a xs from .inl (.inl (m _ h))
    · exact show SqT K H' a xs from .inl (.inr ⟨o, m _ h⟩)
    · exact show SqT K H' a xs from .inr h
section
variable {X : Cx} {pins : List (Addr × Obj)} {σ : L2.St} {A1 : Around} {k l : Bool} {a b z TI TO i1 i2 D : Addr} {xs ys : List V} {H0 : Hp} {Rs : Result → Shared → Prop}
/-- list(zip(..)) between its turns: D the list, ts what stands in it -/
structure LZ (X : Cx) (pins : List (Addr × Obj)) (σ : L2.St) (k l : Bool) (a b z TI TO i1 i2 D : Addr) (xs ys : List V) (H0 : Hp) (i : Nat) (ts : List Addr) (H : Hp) (s : Shared) : Prop where
  inv : Inv X pins σ H s
  fp : ∀ c ∈ [z, TI, TO, i1, i2], FpOk X pins H c
  zt : ZipOut s.heap z TI TO fun T => T ≠ D ∧ ∃ o, H T = some o
  tolt : TO < s.heap.objs.size
  ti : IsTupOf2 s.heap TI (.ref i1) (.ref i2)
  t1 : IterB k s.heap i1 a i
  t2 : IterB l s.heap i2 b i
  lst : H D = some (.lst (ts.map V.ref))
  len : ts.length = i
  old : ∀ c o, H0 c = some o → H c = some o
  new : ∀ t ∈ ts, H0 t = none ∧ t ≠ D
  at_ : ∀ (j : Nat) (t : Addr) (x y : V), ts[j]? = some t → xs[j]? = some x → ys[j]? = some y → TupAt H t [x, y]
theorem lz_loop (hA : A1.handled = none) (S : ZipSep2 z TI TO i1 i2 [i1, a] [i2, b]) (na : a ≠ i1) (nb : b ≠ i2) (hx : SqB k X.K H0 a xs) (hy : SqB l X.K H0 b ys)
    (hD0 : H0 D = none) (hdone : ∀ (ts : List Addr) (H : Hp) (s : Shared), Inv X pins σ H s → H D = some (.lst (ts.map V.ref)) → ts.length = min xs.length ys.length → (∀ c o, H0 c = some o → H c = some o) → (∀ t ∈ ts, H0 t = none ∧ t ≠ D) →
      (∀ (j : Nat) (t : Addr) (x y : V), ts[j]? = some t → xs[j]? = some x → ys[j]? = some y → TupAt H t [x, y]) → Rs (.ok (.ret .none)) s) :
    ∀ (m i : Nat) (ts : List Addr) (H : Hp) (s : Shared), min xs.length ys.length - i = m → i ≤ min xs.length ys.length → LZ X pins σ k l a b z TI TO i1 i2 D xs ys H0 i ts H s →
      codeAny (model X.prog X.w) A1 (.builtin "list.extend.loop" ⟨[.ref D, .ref z, .none], []⟩) Rs s := by
  intro m
  induction m with
  | zero =>
    intro i ts H s hm hi L
    obtain ⟨its, rv, p, _⟩ := (hx.mono fun o e => L.old a o e).hold L.inv
    obtain ⟨its2, rv2, p2, _⟩ := (hy.mono fun o e => L.old b o e).hold L.inv
    have l1 := rv.length
    have l2 := rv2.length
    refine codeAny_builtin PySem.F.entry_extend_loop ?_
    rw [Around.under_plainId PySem.F.plain_extend_loop _]
    show wpAny _ A1.in1 (pyNext (.ref z) >>= _) _ _ s
    refine wpAny_bind (zipO_end S (drawB (prog := X.prog) (w := X.w) (A := A1.in1.in1) k hA i1 a na its.toArray) (drawB (prog := X.prog) (w := X.w) (A := A1.in1.in1) l hA i2 b nb its2.toArray) L.zt L.ti ⟨L.t1, p⟩ ⟨L.t2, p2⟩ (by simp only [List.size_toArray]; omega) (by simp only [List.size_toArray]; omega) (by simp only [List.size_toArray]; omega) fun h' tk hk => ?_)
    exact wpAny_pure (hdone ts H _ (L.inv.turnedL (ch := [z, TO, i1, i2]) (fun c o hc e => hk c o (fun q => hc (by simp [q])) (fun q => hc (by simp [q])) (fun q => hc (by simp [q])) (fun q => hc (by simp [q])) e) fun c hc => L.fp c (by
      have e' : c = z ∨ c = TO ∨ c = i1 ∨ c = i2 := by simpa using hc
      rcases e' with q | q | q | q <;> simp [q])) L.lst (by rw [L.len]; omega) L.old L.new L.at_)
  | succ m ih =>
    intro i ts H s hm hi L
    obtain ⟨its, rv, p, _⟩ := (hx.mono fun o e => L.old a o e).hold L.inv
    obtain ⟨its2, rv2, p2, _⟩ := (hy.mono fun o e => L.old b o e).hold L.inv
    have l1 := rv.length
    have l2 := rv2.length
    have hix : i < xs.length := by omega
    have hiy : i < ys.length := by omega
    refine codeAny_builtin PySem.F.entry_extend_loop ?_
    rw [Around.under_plainId PySem.F.plain_extend_loop _]
    show wpAny _ A1.in1 (pyNext (.ref z) >>= _) _ _ s
    have hfz : ∀ c ∈ [z, TI, TO, i1, i2], H c = none := fun c hc => (L.fp c hc).1
    have hfr : H s.heap.objs.size = none := L.inv.hok.fresh (Nat.le_refl _)
    refine wpAny_bind (zipO_item S (drawB (prog := X.prog) (w := X.w) (A := A1.in1.in1) k hA i1 a na its.toArray) (drawB (prog := X.prog) (w := X.w) (A := A1.in1.in1) l hA i2 b nb its2.toArray) L.zt L.ti ⟨L.t1, p⟩ ⟨L.t2, p2⟩ (by simp only [List.size_toArray]; omega) (by simp only [List.size_toArray]; omega)
      (fun T ⟨_, o, e⟩ => ⟨ne_of_none e (hfz z (by simp)), ne_of_none e (hfz i1 (by simp)), ne_of_none e (hfz i2 (by simp))⟩) fun x1 x2 h' tk e1 e2 zt' st1 st2 hT hsz' hk => ?_)
    obtain ⟨u, hu, ru⟩ := rv.get (i := i) (List.getElem?_eq_getElem hix)
    obtain ⟨u2, hu2, ru2⟩ := rv2.get (i := i) (List.getElem?_eq_getElem hiy)
    rw [List.getElem?_toArray, hu] at e1
    rw [List.getElem?_toArray, hu2] at e2
    cases e1; cases e2
    -- the new tuple
    have new : ObjOk X.prog X.w (upd H s.heap.objs.size (.frz { cls := .type "tuple", data := .seq #[x1, x2] } (.tup [xs[i], ys[i]]))) h' s.heap.objs.size (.frz { cls := .type "tuple", data := .seq #[x1, x2] } (.tup [xs[i], ys[i]])) :=
      ⟨hT, by show 2 ≤ sizeLine; decide, [x1, x2], .cons ru (.cons ru2 .nil), ⟨_, hT, rfl, _, rfl⟩⟩
    have I1 : Inv X pins σ (upd H s.heap.objs.size (.frz { cls := .type "tuple", data := .seq #[x1, x2] } (.tup [xs[i], ys[i]]))) { s with heap := h', toks := tk } :=
      L.inv.turnedNew (t' := tk) (ch := [z, TO, i1, i2]) (fun c o hc e => hk c o (fun q => hc (by simp [q])) (fun q => hc (by simp [q])) (fun q => hc (by simp [q])) (fun q => hc (by simp [q])) e) (fun c hc => L.fp c (by
        have e' : c = z ∨ c = TO ∨ c = i1 ∨ c = i2 := by simpa using hc
        rcases e' with q | q | q | q <;> simp [q])) (Nat.le_refl _) new
    have nD : D ≠ s.heap.objs.size := ne_of_none L.lst hfr
    have hD1 : (upd H s.heap.objs.size (.frz { cls := .type "tuple", data := .seq #[x1, x2] } (.tup [xs[i], ys[i]]))) D = some (.lst (ts.map V.ref)) := by rw [upd_ne nD]; exact L.lst
    generalize hH1 : upd H s.heap.objs.size (.frz { cls := .type "tuple", data := .seq #[x1, x2] } (.tup [xs[i], ys[i]])) = H1 at I1 hD1
    have up : ∀ c o, H c = some o → H1 c = some o := fun c o e => by rw [← hH1, upd_ne (ne_of_none e hfr)]; exact e
    have hT1 : TupAt H1 s.heap.objs.size [xs[i], ys[i]] := ⟨_, by rw [← hH1]; exact upd_same, rfl⟩
    have fp1 : ∀ c ∈ [z, TI, TO, i1, i2], FpOk X pins H1 c := fun c hc => by
      refine ⟨?_, (L.fp c hc).2⟩
      rw [← hH1, upd_ne ?_]
      · exact hfz c hc
      · have there : ∀ {c}, (∃ o, s.heap.get? c = some o) → c ≠ s.heap.objs.size := fun ⟨o, e⟩ => Nat.ne_of_lt (Heap.lt_size e)
        have e' : c = z ∨ c = TI ∨ c = TO ∨ c = i1 ∨ c = i2 := by simpa using hc
        rcases e' with q | q | q | q | q
        · rw [q]
          rcases L.zt with ⟨e, _⟩ | ⟨_, _, _, e, _⟩ <;> exact there ⟨_, e⟩
        · rw [q]; exact there ⟨_, L.ti⟩
        · rw [q]; exact Nat.ne_of_lt L.tolt
        · rw [q]; obtain ⟨o, e, _⟩ := L.t1.obj; exact there ⟨o, e⟩
        · rw [q]; obtain ⟨o, e, _⟩ := L.t2.obj; exact there ⟨o, e⟩
    show wpAny _ A1.in1 (updateSeq D (·.push (.ref s.heap.objs.size)) >>= _) _ _ _
    obtain ⟨zl, items, kk, r2, hl, e⟩ := I1.lstM hD1
    have hlen : (ts.map V.ref).length = i := by rw [List.length_map, L.len]
    have hil : items.length = i := by rw [← hl]; exact hlen
    have hll : ts.length = i := L.len
    have hsz : i < sizeLine := by
      have : xs.length ≤ sizeLine := by
        obtain ⟨_, _, _, z⟩ := (hx.mono fun o e => L.old a o e).hold L.inv
        exact z
      omega
    refine wpAny_bind (wpAny_updateSeq e rfl (wpAny_pure ⟨plainId_quiet PySem.F.plain_extend_loop _, ?_⟩) (by rw [List.size_toArray]; omega) (by show (items.toArray.push _).size ≤ sizeLine + 1; rw [Array.size_push, List.size_toArray]; omega))
    have I2 := I1.lset (f := (·.push (.ref s.heap.objs.size))) (its' := items ++ [.ref s.heap.objs.size]) (ys := (ts ++ [s.heap.objs.size]).map V.ref) (t' := tk) hD1 e (by simp) (by
      rw [List.map_append]
      exact r2.append (.cons rfl .nil)) (by simp; omega)
    have nDf : ∀ c ∈ [z, TI, TO, i1, i2], c ≠ D := fun c hc q => by
      have := (fp1 c hc).1
      rw [q, hD1] at this; cases this
    have oth : ∀ c o, c ≠ D → h'.get? c = some o → (h'.update D (Obj.mapSeq (·.push (.ref s.heap.objs.size)))).get? c = some o := fun c o hc q => (Heap.get?_update_other _ _ (Ne.symm hc)).trans q
    refine ih (i + 1) (ts ++ [s.heap.objs.size]) _ _ (by omega) (by omega) ⟨I2, fun c hc => ⟨by rw [upd_ne (nDf c hc)]; exact (fp1 c hc).1, (fp1 c hc).2⟩, ?_, ?_, ?_, ?_, ?_, upd_same, ?_, ?_, ?_, ?_⟩
    · obtain ⟨T, f, oT, q1, q2, q3⟩ := zt'
      have hTD : T ≠ D ∧ ∃ o, (upd H1 D (.lst ((ts ++ [s.heap.objs.size]).map V.ref))) T = some o := by
        rcases q3 with ⟨hq, o, q3⟩ | q3
        · exact ⟨hq, o, by rw [upd_ne hq]; exact up _ _ q3⟩
        · have : T ≠ D := by rw [q3]; exact Ne.symm nD
          obtain ⟨oo, ee, _⟩ := hT1
          exact ⟨this, _, by rw [upd_ne this, q3]; exact ee⟩
      exact .inr ⟨T, f, oT, oth _ _ (nDf z (by simp)) q1, oth _ _ hTD.1 q2, hTD⟩
    · show TO < (h'.update D (Obj.mapSeq (·.push (.ref s.heap.objs.size)))).objs.size
      rw [Heap.size_update, hsz']
      exact Nat.lt_succ_of_lt L.tolt
    · exact oth _ _ (nDf TI (by simp)) (hk _ _ S.TIz S.TITO S.TIi1 S.TIi2 L.ti)
    · exact st1.1.at fun o q => oth _ _ (nDf i1 (by simp)) q
    · exact st2.1.at fun o q => oth _ _ (nDf i2 (by simp)) q
    · rw [List.length_append, L.len]; rfl
    · intro c o e0
      rw [upd_ne (ne_of_none e0 hD0)]
      exact up _ _ (L.old c o e0)
    · intro t ht
      rcases List.mem_append.mp ht with ht | ht
      · exact L.new t ht
      · rw [List.mem_singleton.mp ht]
        refine ⟨?_, Ne.symm nD⟩
        cases q : H0 s.heap.objs.size with
        | none => rfl
        | some o => have := L.old _ _ q; rw [hfr] at this; cases this
    · intro j t x y hj hxj hyj
      by_cases hji : j < ts.length
      · rw [List.getElem?_append_left hji] at hj
        obtain ⟨oo, ee, dd⟩ := L.at_ j t x y hj hxj hyj
        exact ⟨oo, by rw [upd_ne (L.new t (List.mem_of_getElem? hj)).2]; exact up _ _ ee, dd⟩
      · have hlt := (List.getElem?_eq_some_iff.mp hj).1
        rw [List.length_append, List.length_singleton] at hlt
        have hjl : j = ts.length := by omega
        subst hjl
        rw [List.getElem?_append_right (Nat.le_refl _), Nat.sub_self] at hj
        cases (Option.some.inj hj)
        rw [L.len] at hxj hyj
        rw [List.getElem?_eq_getElem hix] at hxj
        rw [List.getElem?_eq_getElem hiy] at hyj
        cases hxj; cases hyj
        obtain ⟨oo, ee, dd⟩ := hT1
        exact ⟨oo, by rw [upd_ne (Ne.symm nD)]; exact ee, dd⟩
/-- list(z), z a zip that has not begun -/
theorem call_listZip {H : Hp} {s : Shared} {Q : VK} (hc : X.calm = true) (S : ZipSep2 z TI TO i1 i2 [i1, a] [i2, b]) (na : a ≠ i1) (nb : b ≠ i2) (hx : SqB k X.K H a xs) (hy : SqB l X.K H b ys) (I : Inv X pins σ H s)
    (hfp : ∀ c ∈ [z, TI, TO, i1, i2], FpOk X pins H c) (hz : IsZip s.heap z TI TO .none) (hTI : IsTupOf2 s.heap TI (.ref i1) (.ref i2)) {a1 a2 : Value} (hTO : IsTupOf2 s.heap TO a1 a2) (t1 : IterB k s.heap i1 a 0) (t2 : IterB l s.heap i2 b 0)
    (q : ∀ (H' : Hp) (D : Addr) (ts : List Addr), (∀ c o, H c = some o → H' c = some o) → H D = none → (∀ t ∈ ts, H t = none ∧ t ≠ D) → ts.length = min xs.length ys.length → H' D = some (.lst (ts.map V.ref)) →
      (∀ (j : Nat) (t : Addr) (x y : V), ts[j]? = some t → xs[j]? = some x → ys[j]? = some y → TupAt H' t [x, y]) → Q (.ref D) H') :
    wpAny (model X.prog X.w) X.A (call (.type "list") [.ref z]) (EP X pins σ Q) X.xe s := by
  refine callType_codes (Q₁ := fun obj s₁ => obj = .ref s.heap.objs.size ∧ s₁ = { s with heap := s.heap.push { cls := .type "list", data := .seq #[] } }) PySem.F.called_list (PySem.F.typeCall_list_1 _) PySem.F.entry_list_init
    (code_list_new _ ⟨rfl, rfl⟩) fun obj s₁ h₁ => ?_
  obtain ⟨rfl, rfl⟩ := h₁
  have hS : (s.heap.push { cls := .type "list", data := .seq #[] }).get? s.heap.objs.size = some { cls := .type "list", data := .seq #[] } := Heap.get?_push_size _ rfl
  refine ⟨⟨_, hS, rfl⟩, PySem.F.args_list_init_2 _ _, ?_⟩
  have fr : H s.heap.objs.size = none := I.hok.fresh (Nat.le_refl _)
  have lt : ∀ {c : Addr} {o : Obj}, s.heap.get? c = some o → c ≠ s.heap.objs.size := fun e => Nat.ne_of_lt (Heap.lt_size e)
  have I1 : Inv X pins σ (upd H s.heap.objs.size (.lst [])) { s with heap := s.heap.push { cls := .type "list", data := .seq #[] } } := I.lnew (its := []) (t' := s.toks) .nil (Nat.zero_le _)
  have k1 : ∀ c o, s.heap.get? c = some o → (s.heap.push { cls := .type "list", data := .seq #[] }).get? c = some o := fun c o e => Heap.get?_push_of_some _ e
  have s1 : s.heap.objs.size < (s.heap.push { cls := .type "list", data := .seq #[] }).objs.size := by rw [Heap.size_push]; exact Nat.lt_succ_self _
  show wpAny _ _ (do let old ← Builtin.List.listItems (.ref s.heap.objs.size); Builtin.List.listUpdate (.ref s.heap.objs.size) (fun _ => #[]); letGo old.toList.reverse; Builtin.List.listExtendWith (.ref s.heap.objs.size) (.ref z) .none) _ _ _
  refine wpAny_bind ?_
  unfold Builtin.List.listItems
  refine wpAny_bind (wpAny_seqItems hS rfl (wpAny_pure ?_))
  show wpAny _ _ (updateSeq s.heap.objs.size (fun _ => #[]) >>= fun _ => letGo (#[] : Array Value).toList.reverse >>= fun _ => Builtin.List.listExtendWith (.ref s.heap.objs.size) (.ref z) .none) _ _ _
  refine wpAny_bind (wpAny_updateSeq hS rfl ?_)
  have I2 := I1.lset (f := fun _ => #[]) (its := []) (its' := []) (ys := []) (t' := s.toks) upd_same hS rfl .nil (Nat.zero_le _)
  have k2 : ∀ c o, s.heap.get? c = some o → ((s.heap.push { cls := .type "list", data := .seq #[] }).update s.heap.objs.size (Obj.mapSeq fun _ => #[])).get? c = some o := fun c o e => (Heap.get?_update_other _ _ (Ne.symm (lt e))).trans (k1 c o e)
  have s2 : s.heap.objs.size < ((s.heap.push { cls := .type "list", data := .seq #[] }).update s.heap.objs.size (Obj.mapSeq fun _ => #[])).objs.size := by rw [Heap.size_update]; exact s1
  generalize (s.heap.push { cls := .type "list", data := .seq #[] }).update s.heap.objs.size (Obj.mapSeq fun _ => #[]) = hp at I2 k2 s2 ⊢
  rw [upd_upd] at I2
  refine wpAny_bind (wpAny_letGo ?_)
  have hT : ({ s with heap := hp } : Shared).TypeIs (.ref z) "zip" := ⟨_, k2 _ _ hz, rfl⟩
  unfold Builtin.List.listExtendWith
  refine wpAny_bind (wpAny_typeOf hT ?_)
  have h1 : Builtin.List.listSameRef (.ref s.heap.objs.size) (.ref z) = false := by simp [Builtin.List.listSameRef, Ne.symm (lt hz)]
  have h2 : (Value.type "zip" == Value.type "list") = false := by decide
  have h3 : (Value.type "zip" == Value.type "tuple") = false := by decide
  simp only [h1, h2, h3, Bool.or_false, Bool.false_eq_true, if_false]
  refine wpAny_bind (wpAny_pyIter_zip (s := { s with heap := hp }) (k2 _ _ hz) ?_)
  refine wpAny_bind (wpAny_holding ?_)
  unfold Builtin.List.listLengthHint
  refine wpAny_bind (wpAny_specialOf hT zip_no_len ?_)
  show wpAny _ _ (specialOf (Value.ref z) (Str.ofString "__length_hint__") >>= _) _ _ _
  refine wpAny_bind (wpAny_specialOf hT zip_no_hint ?_)
  refine wpAny_pure ?_
  show wpAny _ _ (rule "list.extend.makes-room" >>= fun _ => Builtin.List.listTouch (.ref s.heap.objs.size) >>= fun _ => again (.builtin "list.extend.loop" ⟨[.ref s.heap.objs.size, .ref z, .none], []⟩)) _ _ _
  refine wpAny_bind (wpAny_rule ?_)
  refine wpAny_bind ?_
  show wpAny _ _ (updateSeq s.heap.objs.size (·.push .none) >>= fun _ => updateSeq s.heap.objs.size (·.pop)) _ _ _
  obtain ⟨z3, its3, c3, r3, hl3, e3⟩ := I2.lstM upd_same
  cases r3
  refine wpAny_bind (wpAny_updateSeq e3 rfl ?_)
  have I3 := I2.lset (f := (·.push Value.none)) (its' := [Value.none]) (ys := [.non]) (t' := s.toks) upd_same e3 (by simp) (.cons rfl .nil) (by rw [List.length_singleton, sizeLine_eq]; decide)
  obtain ⟨z4, its4, c4, r4, hl4, e4⟩ := I3.lstM upd_same
  obtain ⟨u4, rfl, ru4⟩ := r4.one
  refine wpAny_updateSeq e4 rfl ?_ (by show 1 ≤ sizeLine; rw [sizeLine_eq]; decide) (by show 0 ≤ sizeLine + 1; exact Nat.zero_le _)
  have I4 := I3.lset (f := (·.pop)) (its := [u4]) (its' := []) (ys := []) (t' := s.toks) upd_same e4 (by rfl) .nil (Nat.zero_le _)
  rw [upd_upd, upd_upd] at I4
  have k4 : ∀ c o, s.heap.get? c = some o → ((hp.update s.heap.objs.size (Obj.mapSeq (·.push Value.none))).update s.heap.objs.size (Obj.mapSeq (·.pop))).get? c = some o := fun c o e =>
    (Heap.get?_update_other _ _ (Ne.symm (lt e))).trans ((Heap.get?_update_other _ _ (Ne.symm (lt e))).trans (k2 c o e))
  have nDf : ∀ c ∈ [z, TI, TO, i1, i2], c ≠ s.heap.objs.size := fun c hc => by
    have e' : c = z ∨ c = TI ∨ c = TO ∨ c = i1 ∨ c = i2 := by simpa using hc
    rcases e' with q | q | q | q | q
    · rw [q]; exact lt hz
    · rw [q]; exact lt hTI
    · rw [q]; exact lt hTO
    · rw [q]; obtain ⟨o, e, _⟩ := t1.obj; exact lt e
    · rw [q]; obtain ⟨o, e, _⟩ := t2.obj; exact lt e
  refine wpAny_pure ⟨plainId_quiet PySem.F.plain_extend_loop _, lz_loop (A1 := X.A.in1) (Rs := wants (fun r s₂ => r = .none ∧ EP X pins σ Q (.ref s.heap.objs.size) s₂) X.xe) (pins := pins) (σ := σ) (H0 := H) (D := s.heap.objs.size) (I.ok.hd hc) S na nb hx hy fr (fun ts H' s' I' e1 e2 e3 e4 e5 => ⟨rfl, .ref s.heap.objs.size, H', I', rfl, q H' _ ts e3 fr e4 e2 e1 e5⟩) _ 0 [] _ _ rfl (Nat.zero_le _) ⟨I4, fun c hc => ⟨by rw [upd_ne (nDf c hc)]; exact (hfp c hc).1, (hfp c hc).2⟩, .inl ⟨k4 _ _ hz, _, _, k4 _ _ hTO⟩, ?_, k4 _ _ hTI, t1.at fun o e => k4 _ o e, t2.at fun o e => k4 _ o e, upd_same, rfl, fun c o e => by rw [upd_ne (ne_of_none e fr)]; exact e, fun t ht => (by cases ht), fun j t x y hj => (by simp at hj)⟩⟩
  show TO < ((hp.update s.heap.objs.size (Obj.mapSeq (·.push Value.none))).update s.heap.objs.size (Obj.mapSeq (·.pop))).objs.size
  rw [Heap.size_update, Heap.size_update]
  exact Nat.lt_trans (Heap.lt_size hTO) s2
end
def tLZip (K : PySem.W.Frag) (ta : TA) : TE := fun σ H Q => ta σ H fun vs H1 => ∃ (k l : Bool) (a b : Addr) (xs ys : List V), vs = [.ref a, .ref b] ∧ SqB k K H1 a xs ∧ SqB l K H1 b ys ∧
  ∀ (H' : Hp) (D : Addr) (ts : List Addr), (∀ c o, H1 c = some o → H' c = some o) → H1 D = none → (∀ t ∈ ts, H1 t = none ∧ t ≠ D) → ts.length = min xs.length ys.length → H' D = some (.lst (ts.map V.ref)) →
    (∀ (j : Nat) (t : Addr) (x y : V), ts[j]? = some t → xs[j]? = some x → ys[j]? = some y → TupAt H' t [x, y]) → Q (.ref D) H'
theorem pe_listZip {X : Cx} {e e2 : Expr} {ta : TA} {p p2 pos zpos : Pos} (hc : X.calm = true) (hgl : Gl X "list") (hml : X.mg "list" = none) (hg : Gl X "zip") (hm : X.mg "zip" = none) (ha : PA X [e, e2] ta)
    (hs : starEach [e, e2] X.env = (false, eval e X.env) :: starEach [e2] X.env) (hpl : (backTo zpos (starEach [e2] X.env)).any (·.1) = false)
    (hsl : starEach [.Call (.Name "zip" p2) [e, e2] [] zpos] X.env = (false, eval (.Call (.Name "zip" p2) [e, e2] [] zpos) X.env) :: starEach [] X.env := by rfl) :
    PE X (.Call (.Name "list" p) [.Call (.Name "zip" p2) [e, e2] [] zpos] [] pos) (tLZip X.K ta) := by
  refine ⟨fun pins s σ H Q I h => ?_⟩
  refine wpAny_Call_Name_kw (ld_blt I hgl hml boot_list ?_)
  refine PyProof.Rows.callWith_type1 ?_ hsl rfl
  rw [hsl]
  show wpAny _ _ (spliced ((false, eval (.Call (.Name "zip" p2) [e, e2] [] zpos) X.env) :: backTo pos (starEach [] X.env))) _ _ s
  refine Calls.spliced_cons ?_
  refine Call_ (ld_blt I hg hm PyProof.Rows.boot_zip (PyProof.Rows.callWith_type1 (thn (ha.run zpos pins s σ H _ I h) fun us s1 ⟨vs, H1, I1, r1, q1⟩ => ?_) hs hpl))
  obtain ⟨k, l, a, b, xs, ys, ex, hqx, hqy, q⟩ := q1
  subst ex
  obtain ⟨u1, u2, rfl, r, r'⟩ := vals2 r1
  cases r
  cases r'
  obtain ⟨its, rv, p1, _⟩ := hqx.hold I1
  obtain ⟨its2, rv2, p2, _⟩ := hqy.hold I1
  have la := p1.lt
  have lb := p2.lt
  refine zip_begins2 (beginsB k a its.toArray) (beginsB l b its2.toArray) p1 p2 fun h' hz hTI hTO g1 g2 hsz hk => Calls.spliced_nil ?_
  have I2 : Inv X pins σ H1 { s1 with heap := h' } := I1.kept (t' := s1.toks) hk
  have S := zip_sep2 (N := s1.heap.objs.size) (fp1 := [a]) (fp2 := [b]) (fun c hc => by rw [List.mem_singleton.mp hc]; exact la) (fun c hc => by rw [List.mem_singleton.mp hc]; exact lb)
  refine call_listZip hc S (Nat.ne_of_lt la) (Nat.ne_of_lt (Nat.lt_succ_of_lt lb)) hqx hqy I2 (fun c hcm => ?_) hz hTI hTO (.new g1) (.new g2) q
  have e' : c = s1.heap.objs.size + 4 ∨ c = s1.heap.objs.size + 2 ∨ c = s1.heap.objs.size + 3 ∨ c = s1.heap.objs.size ∨ c = s1.heap.objs.size + 1 := by simpa using hcm
  have hle : s1.heap.objs.size ≤ c := by
    rcases e' with z | z | z | z | z <;> rw [z] <;> first | exact Nat.le_add_right _ _ | exact Nat.le_refl _
  exact I1.fpOk hle (I1.hok.fresh hle)
end Mn
end
section
set_option linter.all false
set_option autoImplicit false
set_option maxRecDepth 100000
/-! Mini: targets, what is walked. -/
namespace Mn
open PySem PySem.Spec PyProof.Rows L2

/-! ### names are set -/
section
variable {T : Stat} {B : Base} {w : Wd} {env : MEnv} {mh : MH} {σ : L2.St} {H : Hp}
theorem set_get {α : Type} {l : List α} {i j : Nat} {x y : α} (h : (l.set i x)[j]? = some y) : (j = i ∧ y = x) ∨ (j ≠ i ∧ l[j]? = some y) := by
  by_cases e : i = j
  · subst e
    by_cases hi : i < l.length
    · rw [List.getElem?_set_self hi] at h; cases h; exact .inl ⟨rfl, rfl⟩
    · rw [List.getElem?_eq_none (by simpa using hi)] at h; cases h
  · rw [List.getElem?_set_ne e] at h
    exact .inr ⟨fun z => e z.symm, h⟩
theorem Rel.setG {i : Nat} {v : V} {rv : RV} (R : Rel T B w env mh σ H) (r : RvOk T w H v rv)
    (hown : rv.own = true → ∀ a, v = .ref a → B.H a = none ∧ ∀ j rv', j ≠ i → env[j]? = some (some rv') → rv'.own = true → σ[j]? = some (some (.ref a)) → False) :
    Rel T B w (env.set i (some rv)) mh (σ.set i (some v)) H where
  h := R.h
  x := R.x
  e := {
    len := by rw [List.length_set, List.length_set]; exact R.e.len
    ok := fun j rv' h => by
      have hl : j < env.length := by
        by_cases q : j < env.length
        · exact q
        · rw [List.getElem?_eq_none (by simpa using q)] at h; cases h
      rcases set_get h with ⟨e1, e2⟩ | ⟨hj, h'⟩
      · cases e2
        subst e1
        exact ⟨v, List.getElem?_set_self (by rw [R.e.len]; exact hl), r⟩
      · obtain ⟨u, e, q⟩ := R.e.ok j rv' h'
        exact ⟨u, by rw [List.getElem?_set_ne (Ne.symm hj)]; exact e, q⟩
    own := fun a b rv1 rv2 ad hab h1 h2 o1 o2 s1 s2 => by
      rcases set_get h1 with ⟨e1, e1'⟩ | ⟨ha, h1'⟩
      · cases e1'
        rcases set_get h2 with ⟨e2, e2'⟩ | ⟨hb, h2'⟩
        · exact hab (e1.trans e2.symm)
        · rcases set_get s1 with ⟨_, q1⟩ | ⟨z, _⟩
          · cases q1
            rw [List.getElem?_set_ne (Ne.symm hb)] at s2
            exact (hown o1 ad rfl).2 b rv2 hb h2' o2 s2
          · exact z e1
      · rcases set_get h2 with ⟨e2, e2'⟩ | ⟨hb, h2'⟩
        · cases e2'
          rcases set_get s2 with ⟨_, q2⟩ | ⟨z, _⟩
          · cases q2
            rw [List.getElem?_set_ne (Ne.symm ha)] at s1
            exact (hown o2 ad rfl).2 a rv1 ha h1' o1 s1
          · exact z e2
        · rw [List.getElem?_set_ne (Ne.symm ha)] at s1
          rw [List.getElem?_set_ne (Ne.symm hb)] at s2
          exact R.e.own a b rv1 rv2 ad hab h1' h2' o1 o2 s1 s2 }
  own := fun j rv' a h o s => by
    rcases set_get h with ⟨e1, e2⟩ | ⟨hj, h'⟩
    · cases e2
      rcases set_get s with ⟨_, q⟩ | ⟨z, _⟩
      · cases q; exact (hown o a rfl).1
      · exact absurd e1 z
    · rw [List.getElem?_set_ne (Ne.symm hj)] at s
      exact R.own j rv' a h' o s
theorem Rel.setD {i : Nat} {v : V} {rv : RV} (R : Rel T B w env mh σ H) (r : RvOk T w H v rv) (ho : rv.own = false) : Rel T B w (env.set i (some rv)) mh (σ.set i (some v)) H :=
  R.setG r fun h => by rw [ho] at h; cases h
/-- a name's value is forgotten -/
theorem Rel.drop {i : Nat} {o : Option V} (R : Rel T B w env mh σ H) : Rel T B w (env.set i none) mh (σ.set i o) H where
  h := R.h
  x := R.x
  e := {
    len := by rw [List.length_set, List.length_set]; exact R.e.len
    ok := fun j rv' h => by
      rcases set_get h with ⟨_, e2⟩ | ⟨hj, h'⟩
      · cases e2
      · obtain ⟨u, e, q⟩ := R.e.ok j rv' h'
        exact ⟨u, by rw [List.getElem?_set_ne (Ne.symm hj)]; exact e, q⟩
    own := fun a b rv1 rv2 ad hab h1 h2 o1 o2 s1 s2 => by
      rcases set_get h1 with ⟨_, e2⟩ | ⟨ha, h1'⟩
      · cases e2
      rcases set_get h2 with ⟨_, e2⟩ | ⟨hb, h2'⟩
      · cases e2
      rw [List.getElem?_set_ne (Ne.symm ha)] at s1
      rw [List.getElem?_set_ne (Ne.symm hb)] at s2
      exact R.e.own a b rv1 rv2 ad hab h1' h2' o1 o2 s1 s2 }
  own := fun j rv' a h o s => by
    rcases set_get h with ⟨_, e2⟩ | ⟨hj, h'⟩
    · cases e2
    · rw [List.getElem?_set_ne (Ne.symm hj)] at s
      exact R.own j rv' a h' o s
theorem Rel.wipe {vs : List Nat} (R : Rel T B w env mh σ H) : Rel T B w (wipeM env vs) mh (L2.wipe σ vs) H := by
  induction vs with
  | nil => exact R
  | cons v vs ih => exact ih.drop
end

/-! ### targets -/
/-- a value that a target takes: data, or a tuple that is just made -/
def Bd (g : Pw) (F : Addr → Prop) (H : Hp) (x : V) (d : PyData) : Prop := Dv g F H x d ∨ ∃ p vs ds, x = .ref p ∧ H p = some (.tup vs) ∧ DvA g F H vs ds ∧ d = .tuple ds
def BdT : Tg → Pw → (Addr → Prop) → Hp → V → PyData → Prop
  | .nm _ => Dv
  | _ => Bd
theorem BdT.of {t : Tg} {g : Pw} {F : Addr → Prop} {H : Hp} {x : V} {d : PyData} (h : Dv g F H x d) : BdT t g F H x d := by
  cases t with
  | nm i => exact h
  | nil => exact .inl h
  | cons a b => exact .inl h
/-- the slots that a target sets -/
def Tg.slots : Tg → List Nat
  | .nm i => [i]
  | .nil => []
  | .cons t ts => t.slots ++ ts.slots
/-- alike but for these slots -/
def Near (vs : List Nat) (σ σ' : L2.St) : Prop := σ'.length = σ.length ∧ ∀ j, j ∉ vs → σ'[j]? = σ[j]?
theorem Near.refl {vs : List Nat} {σ : L2.St} : Near vs σ σ := ⟨rfl, fun _ _ => rfl⟩
theorem Near.trans {vs us : List Nat} {σ σ1 σ2 : L2.St} (a : Near vs σ σ1) (b : Near us σ1 σ2) : Near (vs ++ us) σ σ2 := ⟨b.1.trans a.1, fun j h => (b.2 j fun z => h (List.mem_append_right _ z)).trans (a.2 j fun z => h (List.mem_append_left _ z))⟩
def TGm (J : Jd) (t : Tg) : TG := fun v σ H Q => ∃ w env d env' mh, Rel J.T J.B w env mh σ H ∧ BdT t J.T.g w.F H v d ∧ bindT t d env = some env' ∧ ∀ σ', Rel J.T J.B w env' mh σ' H → Near t.slots σ σ' → Q σ' H
def TGsm (J : Jd) (t : Tg) : TGs := fun vs σ H Q => ∃ w env ds env' mh, Rel J.T J.B w env mh σ H ∧ DvA J.T.g w.F H vs ds ∧ bindT t (.tuple ds) env = some env' ∧ ∀ σ', Rel J.T J.B w env' mh σ' H → Near t.slots σ σ' → Q σ' H
section
variable {X : Cx} {J : Jd}
theorem PG.weak {e : Expr} {t t' : TG} (h : PG X e t) (k : ∀ v σ H Q, t' v σ H Q → t v σ H Q) : PG X e t' := ⟨fun pins s σ H v u Q I r q => h.run pins s σ H v u Q I r (k v σ H Q q)⟩
theorem PGs.weak {e : List Expr} {t t' : TGs} (h : PGs X e t) (k : ∀ v σ H Q, t' v σ H Q → t v σ H Q) : PGs X e t' := ⟨fun pins s σ H v u Q I r q => h.run pins s σ H v u Q I r (k v σ H Q q)⟩
theorem mg_nm {i : Nat} {x : Str} {pos : Pos} (hN : X.N.Nodup) (hi : X.N[i]? = some x) (hx : Loc X.env.scope x) (hf : X.fn x = true ∨ X.env.scope.names.lookup x = some .local) : PG X (.Name x pos) (TGm J (.nm i)) :=
  PG.weak (pg_name hN hi hx hf) fun v σ H Q ⟨w, env, d, env', mh, R, r, e, q⟩ => by
    have e : (if i < env.length then some (env.set i (some (.dat d))) else none) = some env' := e
    split at e
    · cases e
      exact q _ (R.setD (rv := .dat d) r rfl) ⟨List.length_set, fun j h => List.getElem?_set_ne fun z => h (by simp [Tg.slots, z])⟩
    · cases e
theorem mgs_nil : PGs X [] (TGsm J .nil) := PGs.weak pgs_nil fun vs σ H Q ⟨w, env, ds, env', mh, R, r, e, q⟩ => by
  cases ds with
  | nil => cases r; cases (show some env = some env' from e); exact ⟨rfl, q _ R .refl⟩
  | cons d ds => cases (show none = some env' from e)
theorem mgs_cons {e : Expr} {es : List Expr} {t ts : Tg} (h1 : PG X e (TGm J t)) (h2 : PGs X es (TGsm J ts)) (hs : (assignEach (e :: es) X.env).map (·.2) = assign e X.env :: (assignEach es X.env).map (·.2)) : PGs X (e :: es) (TGsm J (.cons t ts)) :=
  PGs.weak (pgs_cons h1 h2 hs) fun us σ H Q ⟨w, env, es', env', mh, R, r, e, q⟩ => by
    cases r with
    | nil => cases (show none = some env' from e)
    | @cons v vs d ds r1 r =>
      have e : ((bindT t d env).bind fun env' => bindT ts (.tuple ds) env') = some env' := e
      obtain ⟨env1, e1, e2⟩ := Option.bind_eq_some_iff.mp e
      exact ⟨v, vs, rfl, w, env, d, env1, mh, R, .of r1, e1, fun σ' R' n' => ⟨w, env1, ds, env', mh, R', r, e2, fun σ2 R2 n2 => q σ2 R2 (n'.trans n2)⟩⟩
/-- how many -/
def Tg.len : Tg → Nat
  | .cons _ ts => ts.len + 1
  | _ => 0
def Tg.seq : Tg → Bool
  | .nil => true
  | .cons _ ts => ts.seq
  | .nm _ => false
theorem bindT_len : ∀ {t : Tg} {ds : List PyData} {env env' : MEnv}, t.seq = true → bindT t (.tuple ds) env = some env' → ds.length = t.len
  | .nil, [], _, _, _, _ => rfl
  | .nil, _ :: _, _, _, _, e => by cases e
  | .cons t ts, [], _, _, _, e => by cases e
  | .cons t ts, d :: ds, env, env', h, e => by
    have e : ((bindT t d env).bind fun env' => bindT ts (.tuple ds) env') = some env' := e
    obtain ⟨env1, _, e2⟩ := Option.bind_eq_some_iff.mp e
    show ds.length + 1 = ts.len + 1
    rw [bindT_len (t := ts) h e2]
theorem bindT_list : ∀ {t : Tg} {ds : List PyData} {env env' : MEnv}, t.seq = true → bindT t (.list ds) env = some env' → bindT t (.tuple ds) env = some env'
  | .nil, [], _, _, _, e => e
  | .nil, _ :: _, _, _, _, e => by cases e
  | .cons t ts, [], _, _, _, e => by cases e
  | .cons t ts, d :: ds, env, env', h, e => by
    have e : ((bindT t d env).bind fun env' => bindT ts (.list ds) env') = some env' := e
    obtain ⟨env1, e1, e2⟩ := Option.bind_eq_some_iff.mp e
    show ((bindT t d env).bind fun env' => bindT ts (.tuple ds) env') = some env'
    rw [e1]
    exact bindT_list (t := ts) h e2
theorem mg_seq {es : List Expr} {k : Nat} {t : Tg} {pos : Pos} (hc : X.calm = true) (h : PGs X es (TGsm J t)) (ht : t.seq = true) (hn : (assignEach es X.env).length = t.len) (hst : (assignEach es X.env).findIdx? (·.1) = none) : PG X (.Tuple es k pos) (TGm J t) := by
  refine ⟨fun pins s σ H v u Q I r q => ?_⟩
  obtain ⟨w, env, d, env', mh, R, rb, e, q⟩ := q
  have rb : Bd J.T.g w.F H v d := by cases t with | nm i => cases ht | nil => exact rb | cons a b => exact rb
  have done : ∀ {vs : List V} {ds : List PyData}, DvA J.T.g w.F H vs ds → bindT t (.tuple ds) env = some env' → vs.length = t.len ∧ TGsm J t vs σ H Q := fun {vs ds} r1 e1 => ⟨by rw [r1.length]; exact bindT_len ht e1, w, env, ds, env', mh, R, r1, e1, q⟩
  have onT : ∀ {ds : List PyData} {p : Addr} {vs : List V}, v = .ref p → SqT X.K H p vs → DvA J.T.g w.F H vs ds → d = .tuple ds → wpAny (model X.prog X.w) X.A (assign (.Tuple es k pos) X.env u) (fun _ s' => ∃ σ' H', Inv X pins σ' H' s' ∧ Q σ' H') X.xe s := fun {ds p vs} e1 e2 e3 e4 => by
    subst e4
    obtain ⟨z1, z2⟩ := done e3 e
    exact (pg_tup hc h hn hst).run pins s σ H v u Q I r ⟨p, vs, e1, e2, z1, z2⟩
  rcases rb with rb | ⟨p, vs, ds, e1, e2, e3, e4⟩
  · cases rb with
    | tup f ta dl => exact onT rfl ta.sq dl rfl
    | lst f ta dl =>
      obtain ⟨z1, z2⟩ := done dl (bindT_list ht e)
      exact (pg_lst hc h hn hst).run pins s σ H _ u Q I r ⟨_, _, rfl, .inl ta, z1, z2⟩
    | _ => cases t with
      | nm i => cases ht
      | nil => cases e
      | cons a b => cases e
  · exact onT e1 (.of e2) e3 e4
end

/-! ### what is walked -/
/-- the frozen things stay -/
def FKeep (w : Wd) (H : Hp) (w' : Wd) (H' : Hp) : Prop := (∀ a, w.F a → w'.F a) ∧ ∀ a o, w.F a → H a = some o → H' a = some o
theorem Ext.fk {w w' : Wd} {H H' : Hp} (x : Ext w H w' H') : FKeep w H w' H' := ⟨x.F, fun a o f e => x.H a o e fun _ => f⟩
theorem FKeep.refl {w : Wd} {H : Hp} : FKeep w H w H := ⟨fun _ h => h, fun _ _ _ h => h⟩
theorem FKeep.trans {w w1 w2 : Wd} {H H1 H2 : Hp} (a : FKeep w H w1 H1) (b : FKeep w1 H1 w2 H2) : FKeep w H w2 H2 := ⟨fun x h => b.1 x (a.1 x h), fun x o f h => b.2 x o (a.1 x f) (a.2 x o f h)⟩
abbrev KeepR := Wd → Hp → Wd → Hp → Prop
def WalksR (K : KeepR) (t : Tg) (g : Pw) (w : Wd) (H : Hp) (I : L2.It) (ds : List PyData) : Prop :=
  ∀ w' H', K w H w' H' → (∀ i, i < ds.length → I.go i H') ∧ I.stop ds.length H' ∧
    ∀ i x H'', I.yld i H' x H'' → i < ds.length → ∃ d, ds[i]? = some d ∧ BdT t g w'.F H'' x d ∧ (H'' = H' ∨ ∃ p o, H' p = none ∧ H'' = upd H' p o)
def TIm (J : Jd) (K : KeepR) (t : Tg) (m : MEnv → MH → Out (List PyData)) : TI := fun σ H R => ∃ w env mh, Rel J.T J.B w env mh σ H ∧ OG J.T (WalksR K t J.T.g) (fun c d H' => J.W c d σ H') w H (m env mh) R
section
variable {K : KeepR} {t : Tg} {g : Pw} {w : Wd} {H : Hp} {F : PySem.W.Frag}
theorem dvA_i {F : Addr → Prop} {vs : List V} {ds : List PyData} {i : Nat} (r : DvA g F H vs ds) (h : i < ds.length) : ∃ v d, vs[i]? = some v ∧ ds[i]? = some d ∧ Dv g F H v d := by
  obtain ⟨v, e, q⟩ := r.get (List.getElem?_eq_getElem h)
  exact ⟨v, _, e, List.getElem?_eq_getElem h, q⟩
theorem walks_list {a : Addr} {vs : List V} {ds : List PyData} (h : ∀ w' H', K w H w' H' → SqL F H' a vs ∧ DvA g w'.F H' vs ds) : WalksR K t g w H (Itl F a) ds := fun w' H' k => by
  obtain ⟨h1, h2⟩ := h w' H' k
  refine ⟨fun i hi => ?_, ⟨vs, h1, by rw [h2.length]; exact Nat.le_refl _⟩, fun i x H'' hy hi => ?_⟩
  · obtain ⟨v, d, e, _, _⟩ := dvA_i h2 hi
    exact ⟨vs, v, h1, e⟩
  · obtain ⟨v, d, e1, e2, r⟩ := dvA_i h2 hi
    obtain ⟨rfl, hx⟩ := hy
    have e3 := hx vs h1
    rw [e1] at e3; cases e3
    exact ⟨d, e2, .of r, .inl rfl⟩
theorem walks_tup {a : Addr} {vs : List V} {ds : List PyData} (h : ∀ w' H', K w H w' H' → SqT F H' a vs ∧ DvA g w'.F H' vs ds) : WalksR K t g w H (Itt F a) ds := fun w' H' k => by
  obtain ⟨h1, h2⟩ := h w' H' k
  refine ⟨fun i hi => ?_, ⟨vs, h1, by rw [h2.length]; exact Nat.le_refl _⟩, fun i x H'' hy hi => ?_⟩
  · obtain ⟨v, d, e, _, _⟩ := dvA_i h2 hi
    exact ⟨vs, v, h1, e⟩
  · obtain ⟨v, d, e1, e2, r⟩ := dvA_i h2 hi
    obtain ⟨rfl, hx⟩ := hy
    have e3 := hx vs h1
    rw [e1] at e3; cases e3
    exact ⟨d, e2, .of r, .inl rfl⟩
theorem walks_str {x : Str} : WalksR K t g w H (Its x) (x.cps.toList.map fun c => .str ⟨#[c]⟩) := fun w' H' k => by
  refine ⟨fun i hi => by show i < x.cps.size; simpa using hi, by simp [Its], fun i v H'' hy hi => ?_⟩
  obtain ⟨rfl, c, hc, rfl⟩ := hy
  refine ⟨.str ⟨#[c]⟩, ?_, .of (.str _), .inl rfl⟩
  rw [List.getElem?_map, Array.getElem?_toList, hc]
  rfl
theorem rngD_length (lo : Int) : ∀ n, (rngD lo n).length = n
  | 0 => rfl
  | n + 1 => by show (rngD _ n).length + 1 = n + 1; rw [rngD_length _ n]
theorem rngD_get (lo : Int) : ∀ (n i : Nat), i < n → (rngD lo n)[i]? = some (.int (lo + i))
  | n + 1, 0, _ => by show some (PyData.int lo) = _; simp
  | n + 1, i + 1, h => by
    show (rngD (lo + 1) n)[i]? = _
    rw [rngD_get (lo + 1) n i (by omega)]
    have : lo + 1 + (i : Int) = lo + ((i + 1 : Nat) : Int) := by omega
    rw [this]
theorem walks_rng {lo : Int} {n : Nat} : WalksR K t g w H (Itr lo n) (rngD lo n) := fun w' H' k => by
  refine ⟨fun i hi => by rw [rngD_length] at hi; exact hi, by rw [rngD_length]; exact Nat.le_refl _, fun i v H'' hy hi => ?_⟩
  rw [rngD_length] at hi
  obtain ⟨rfl, rfl⟩ := hy
  exact ⟨_, rngD_get lo n i hi, .of (.int _), .inl rfl⟩
theorem zipD2_length : ∀ xs ys : List PyData, (zipD2 xs ys).length = min xs.length ys.length
  | [], ys => by simp [zipD2]
  | x :: xs, [] => by simp [zipD2]
  | x :: xs, y :: ys => by simp only [zipD2, List.length_cons]; rw [zipD2_length xs ys]; omega
theorem zipD2_get : ∀ {xs ys : List PyData} {i : Nat} {x y : PyData}, xs[i]? = some x → ys[i]? = some y → (zipD2 xs ys)[i]? = some (.tuple [x, y])
  | [], _, _, _, _, h, _ => by simp at h
  | _ :: _, [], _, _, _, _, h => by simp at h
  | x :: xs, y :: ys, 0, _, _, h, h' => by simp at h h'; subst h h'; rfl
  | x :: xs, y :: ys, i + 1, _, _, h, h' => by
    show (zipD2 xs ys)[i]? = _
    exact zipD2_get (by simpa using h) (by simpa using h')
theorem zipD3_length : ∀ xs ys zs : List PyData, (zipD3 xs ys zs).length = min (min xs.length ys.length) zs.length
  | [], ys, zs => by simp [zipD3]
  | x :: xs, [], zs => by simp [zipD3]
  | x :: xs, y :: ys, [] => by simp [zipD3]
  | x :: xs, y :: ys, z :: zs => by simp only [zipD3, List.length_cons]; rw [zipD3_length xs ys zs]; omega
theorem zipD3_get : ∀ {xs ys zs : List PyData} {i : Nat} {x y z : PyData}, xs[i]? = some x → ys[i]? = some y → zs[i]? = some z → (zipD3 xs ys zs)[i]? = some (.tuple [x, y, z])
  | [], _, _, _, _, _, _, h, _, _ => by simp at h
  | _ :: _, [], _, _, _, _, _, _, h, _ => by simp at h
  | _ :: _, _ :: _, [], _, _, _, _, _, _, h => by simp at h
  | x :: xs, y :: ys, z :: zs, 0, _, _, _, h, h', h'' => by simp at h h' h''; subst h h' h''; rfl
  | x :: xs, y :: ys, z :: zs, i + 1, _, _, _, h, h', h'' => by
    show (zipD3 xs ys zs)[i]? = _
    exact zipD3_get (by simpa using h) (by simpa using h') (by simpa using h'')
theorem enumD_length : ∀ (n : Nat) (xs : List PyData), (enumD n xs).length = xs.length
  | _, [] => rfl
  | n, x :: xs => by simp only [enumD, List.length_cons]; rw [enumD_length (n + 1) xs]
theorem enumD_get : ∀ {xs : List PyData} {n i : Nat} {x : PyData}, xs[i]? = some x → (enumD n xs)[i]? = some (.tuple [.int ((n + i : Nat) : Int), x])
  | [], _, _, _, h => by simp at h
  | x :: xs, n, 0, _, h => by simp at h; subst h; rfl
  | x :: xs, n, i + 1, _, h => by
    show (enumD (n + 1) xs)[i]? = _
    rw [enumD_get (by simpa using h)]
    have : n + 1 + i = n + (i + 1) := by omega
    rw [this]
theorem BdT.new {T : Addr} {vs : List V} {ds : List PyData} {F : Addr → Prop} (ht : t.seq = true) (hn : H T = none) (r : DvA g F H vs ds) : BdT t g F (upd H T (.tup vs)) (.ref T) (.tuple ds) := by
  have q : Bd g F (upd H T (.tup vs)) (.ref T) (.tuple ds) := .inr ⟨T, vs, ds, rfl, upd_same, r.mono (fun _ h => h) fun a u _ e => by rw [upd_ne (ne_of_none e hn)]; exact e, rfl⟩
  cases t with
  | nm i => cases ht
  | nil => exact q
  | cons a b => exact q
theorem walks_zipB {k l : Bool} {a b : Addr} {vs us : List V} {ds es : List PyData} (ht : t.seq = true) (h : ∀ w' H', K w H w' H' → SqB k F H' a vs ∧ DvA g w'.F H' vs ds ∧ SqB l F H' b us ∧ DvA g w'.F H' us es) : WalksR K t g w H (ItzB F k l a b) (zipD2 ds es) := fun w' H' kk => by
  obtain ⟨h1, h2, h3, h4⟩ := h w' H' kk
  rw [zipD2_length]
  refine ⟨fun i hi => ⟨vs, us, h1, h3, by rw [h2.length]; omega, by rw [h4.length]; omega⟩, ⟨vs, us, h1, h3, by rw [h2.length, h4.length]⟩, fun i x H'' hy hi => ?_⟩
  obtain ⟨v, d, e1, e2, r⟩ := dvA_i h2 (i := i) (by omega)
  obtain ⟨v', d', e1', e2', r'⟩ := dvA_i h4 (i := i) (by omega)
  obtain ⟨T, x, y, rfl, hn, rfl, hx⟩ := hy
  obtain ⟨z1, z2⟩ := hx vs us h1 h3
  rw [e1] at z1; rw [e1'] at z2; cases z1; cases z2
  exact ⟨_, zipD2_get e2 e2', .new ht hn (.cons r (.cons r' .nil)), .inr ⟨T, _, hn, rfl⟩⟩
theorem walks_zipC {k l m : Bool} {a b c : Addr} {vs us ws : List V} {ds es fs : List PyData} (ht : t.seq = true) (h : ∀ w' H', K w H w' H' → SqB k F H' a vs ∧ DvA g w'.F H' vs ds ∧ SqB l F H' b us ∧ DvA g w'.F H' us es ∧ SqB m F H' c ws ∧ DvA g w'.F H' ws fs) : WalksR K t g w H (ItzC F k l m a b c) (zipD3 ds es fs) := fun w' H' kk => by
  obtain ⟨h1, h2, h3, h4, h5, h6⟩ := h w' H' kk
  rw [zipD3_length]
  refine ⟨fun i hi => ⟨vs, us, ws, h1, h3, h5, by rw [h2.length]; omega, by rw [h4.length]; omega, by rw [h6.length]; omega⟩, ⟨vs, us, ws, h1, h3, h5, by rw [h2.length, h4.length, h6.length]⟩, fun i x H'' hy hi => ?_⟩
  obtain ⟨v, d, e1, e2, r⟩ := dvA_i h2 (i := i) (by omega)
  obtain ⟨v', d', e1', e2', r'⟩ := dvA_i h4 (i := i) (by omega)
  obtain ⟨v'', d'', e1'', e2'', r''⟩ := dvA_i h6 (i := i) (by omega)
  obtain ⟨T, x, y, z, rfl, hn, rfl, hx⟩ := hy
  obtain ⟨z1, z2, z3⟩ := hx vs us ws h1 h3 h5
  rw [e1] at z1; rw [e1'] at z2; rw [e1''] at z3; cases z1; cases z2; cases z3
  exact ⟨_, zipD3_get e2 e2' e2'', .new ht hn (.cons r (.cons r' (.cons r'' .nil))), .inr ⟨T, _, hn, rfl⟩⟩
theorem walks_enum {k : Bool} {a : Addr} {vs : List V} {ds : List PyData} (ht : t.seq = true) (h : ∀ w' H', K w H w' H' → SqB k F H' a vs ∧ DvA g w'.F H' vs ds) : WalksR K t g w H (IteB F k a) (enumD 0 ds) := fun w' H' kk => by
  obtain ⟨h1, h2⟩ := h w' H' kk
  rw [enumD_length]
  refine ⟨fun i hi => ⟨vs, h1, by rw [h2.length]; omega⟩, ⟨vs, h1, by rw [h2.length]⟩, fun i x H'' hy hi => ?_⟩
  obtain ⟨v, d, e1, e2, r⟩ := dvA_i h2 (i := i) (by omega)
  obtain ⟨T, x, rfl, hn, rfl, hx⟩ := hy
  have z1 := hx vs h1
  rw [e1] at z1; cases z1
  refine ⟨_, enumD_get e2, .new ht hn (.cons ?_ (.cons r .nil)), .inr ⟨T, _, hn, rfl⟩⟩
  rw [Nat.zero_add]
  exact .int _
end
end Mn
end
section
set_option linter.all false
set_option autoImplicit false
set_option maxRecDepth 100000
/-! Mini: rules for expressions. -/
namespace Mn
open PySem PySem.Spec PyProof.Rows L2

/-- no star, by its head -/
def plainX : Expr → Bool
  | .Starred _ _ => false
  | .Slice _ _ _ _ => false
  | .Set _ _ _ => false
  | _ => true
theorem star_of {e : Expr} {es : List Expr} {env : Env} (h : plainX e = true) : starEach (e :: es) env = (false, eval e env) :: starEach es env := by
  cases e <;> first | rfl | cases h
theorem star_all {env : Env} : ∀ {es : List Expr}, es.all plainX = true → starEach es env = es.map fun e => (false, eval e env)
  | [], _ => rfl
  | e :: es, h => by
    rw [List.all_cons, Bool.and_eq_true] at h
    rw [star_of h.1, star_all h.2]; rfl
theorem star_back {env : Env} {pos : Pos} {es : List Expr} (h : es.all plainX = true) : backTo pos (starEach es env) = es.map fun e => (false, eval e env) := by
  rw [star_all h]; unfold backTo; rw [List.map_map]; exact List.map_congr_left fun e _ => rfl
theorem star_any {env : Env} {pos : Pos} {es : List Expr} (h : es.all plainX = true) : (backTo pos (starEach es env)).any (·.1) = false := by
  rw [star_back h]; induction es with
  | nil => rfl
  | cons e es ih => rw [List.all_cons, Bool.and_eq_true] at h; show (false || _) = false; rw [Bool.false_or]; exact ih h.2
theorem plainIx_of {b : Expr} (h : plainX b = true) : PlainIx b := by intro o i; cases b <;> first | rfl | cases h
theorem nomarks {op : CmpOp} {b : Expr} (h : plainX b = true) : behindInMarks op b = false := by cases b <;> first | rfl | cases h
theorem folded_of {it : Expr} {env : Env} (h : plainX it = true) : ∀ x, foldedSetIterable it env x = pure x := by intro x; cases it <;> first | rfl | cases h

/-! ### what new results are -/
/-- a list or a dict that nobody else holds -/
def FreshAt (g : Pw) (w : Wd) (H : Hp) (a : Addr) : PyData → Prop
  | .list ds => a ∉ w.cs ∧ ¬ w.F a ∧ ∃ xs, H a = some (.lst xs) ∧ DvA g w.F H xs ds
  | .dict ps => a ∉ w.cs ∧ ¬ w.F a ∧ ((∃ kvs, H a = some (.dK kvs) ∧ DvK g w.F H kvs ps) ∨ ∃ kvs, H a = some (TD g a kvs) ∧ DvT g w.F H kvs ps)
  | _ => False
def relF (T : Stat) (H₀ : Hp) : Wd → Hp → V → RV → Prop := fun w H v rv => ∃ a d, v = .ref a ∧ rv = .dat d ∧ H₀ a = none ∧ FreshAt T.g w H a d
/-- a value of its own is new -/
def RvN (T : Stat) (H₀ : Hp) : Wd → Hp → V → RV → Prop := fun w H v rv => RvOk T w H v rv ∧ (rv.own = true → ∀ a, v = .ref a → H₀ a = none)
def TEf (J : Jd) (m : MEnv → MH → Out RV) : TE := fun σ H Q => ∃ w env mh, Rel J.T J.B w env mh σ H ∧ OG J.T (relF J.T H) (fun c d H' => J.W c d σ H') w H (m env mh) Q
def TEc (J : Jd) (m : MEnv → MH → Out RV) : TE := fun σ H Q => ∃ w env mh, Rel J.T J.B w env mh σ H ∧ OG J.T (RvN J.T H) (fun c d H' => J.W c d σ H') w H (m env mh) Q
theorem OG.rel {T : Stat} {α β : Type} {rel rel' : Wd → Hp → β → α → Prop} {W : XK} {w : Wd} {H : Hp} {o : Out α} {Q : β → Hp → Prop} (h : OG T rel W w H o Q) (k : ∀ w' H' b a, Ext w H w' H' → rel' w' H' b a → rel w' H' b a) : OG T rel' W w H o Q := by
  cases o with
  | ok a mh => exact fun w' b H' x r q => h w' b H' x r (k _ _ _ _ x q)
  | exc x mh => exact h
  | stuck => exact h
theorem TEc.tem {J : Jd} {m : MEnv → MH → Out RV} {σ : L2.St} {H : Hp} {Q : VK} (h : TEm J m σ H Q) : TEc J m σ H Q := let ⟨w, env, mh, R, o⟩ := h; ⟨w, env, mh, R, o.rel fun _ _ _ _ _ q => q.1⟩
/-- a fresh one is frozen -/
theorem RelH.freeze {T : Stat} {w : Wd} {mh : MH} {H : Hp} {a : Addr} {o : HO} (R : RelH T w mh H) (hc : a ∉ w.cs) (ha : H a = some o) : RelH T (w.add a) mh H where
  len := R.len
  nd := R.nd
  thF := fun b h => by
    rcases h with h | h
    · exact R.thF b h
    · subst h; exact ⟨o, ha⟩
  thC := R.thC
  ok := fun n c b h1 h2 => by
    have h := R.ok n c b h1 h2
    have m : ∀ {v : V} {d : PyData}, Dv T.g w.F H v d → Dv T.g (w.add a).F H v d := fun q => q.mono (fun _ => .inl) fun _ _ _ e => e
    cases c with
    | lst ds => obtain ⟨xs, e, q⟩ := h; exact ⟨xs, e, q.mono (fun _ => .inl) fun _ _ _ e => e⟩
    | dct ps =>
      rcases h with ⟨kvs, e, q⟩ | ⟨kvs, e, q⟩
      · exact .inl ⟨kvs, e, q.mono (fun _ => .inl) fun _ _ _ e => e⟩
      · exact .inr ⟨kvs, e, q.mono (fun _ => .inl) fun _ _ _ e => e⟩
    | ins c fs =>
      obtain ⟨dx, hfs, e, q, l⟩ := h
      refine ⟨dx, hfs, e, ?_, l⟩
      clear e l h1
      induction q with
      | nil => exact .nil
      | dat r _ ih => exact .dat (m r) ih
      | ref r _ ih => exact .ref r ih
    | dead => trivial
  live := fun n c b h1 h2 h3 h => by
    rcases h with h | h
    · exact R.live n c b h1 h2 h3 h
    · subst h; exact hc (List.mem_of_getElem? h2)
theorem Ext.freeze {w w' : Wd} {H H' : Hp} {a : Addr} (x : Ext w H w' H') (hn : H a = none) : Ext w H (w'.add a) H' where
  F := fun b h => .inl (x.F b h)
  F' := fun b h => by
    rcases h with h | h
    · exact x.F' b h
    · subst h; exact .inr (.inl hn)
  cs := x.cs
  cs' := x.cs'
  H := x.H
theorem FreshAt.dv {g : Pw} {w : Wd} {H : Hp} {a : Addr} {d : PyData} (h : FreshAt g w H a d) : Dv g (w.add a).F H (.ref a) d := by
  cases d with
  | list ds => obtain ⟨_, _, xs, e, q⟩ := h; exact .lst (.inr rfl) (.inl e) (q.mono (fun _ => .inl) fun _ _ _ e => e)
  | dict ps =>
    obtain ⟨_, _, h⟩ := h
    rcases h with ⟨kvs, e, q⟩ | ⟨kvs, e, q⟩
    · exact .dK (.inr rfl) (.inl e) (q.mono (fun _ => .inl) fun _ _ _ e => e)
    · exact .dT (.inr rfl) (.inl e) (q.mono (fun _ => .inl) fun _ _ _ e => e)
  | _ => exact absurd h (by simp [FreshAt])
theorem FreshAt.nc {g : Pw} {w : Wd} {H : Hp} {a : Addr} {d : PyData} (h : FreshAt g w H a d) : a ∉ w.cs ∧ ¬ w.F a ∧ ∃ o, H a = some o := by
  cases d with
  | list ds => obtain ⟨h1, h2, xs, e, q⟩ := h; exact ⟨h1, h2, _, e⟩
  | dict ps =>
    obtain ⟨h1, h2, h⟩ := h
    rcases h with ⟨kvs, e, q⟩ | ⟨kvs, e, q⟩
    · exact ⟨h1, h2, _, e⟩
    · exact ⟨h1, h2, _, e⟩
  | _ => exact absurd h (by simp [FreshAt])
theorem TEf.tem {J : Jd} {m : MEnv → MH → Out RV} {σ : L2.St} {H : Hp} {Q : VK} (h : TEm J m σ H Q) : TEf J m σ H Q := by
  obtain ⟨w, env, mh, R, o⟩ := h
  refine ⟨w, env, mh, R, ?_⟩
  generalize m env mh = r at o ⊢
  cases r with
  | ok a mh' =>
    intro w' b H' x r q
    obtain ⟨p, d, rfl, rfl, hn, hf⟩ := q
    obtain ⟨h1, h2, ob, h3⟩ := hf.nc
    exact o (w'.add p) _ H' (x.freeze hn) (r.freeze h1 h3) hf.dv
  | exc x mh' => exact o
  | stuck => exact o
/-- the results of new-making functions -/
theorem NewF.fresh {T : Stat} {W : XK} {w : Wd} {H₀ H H' : Hp} {d : PyData} {mh : MH} {Q : VK} {v : V} (o : OG T (relF T H₀) W w H (.ok (.dat d) mh) Q) (R : RelH T w mh H) (x : ∀ a, H a = none → H₀ a = none) (n : NewF T.g w.F H v d H') : Q v H' := by
  have nF : ∀ p, H p = none → ¬ w.F p := fun p hn z => by obtain ⟨o, e⟩ := R.thF p z; rw [hn] at e; cases e
  have nC : ∀ p, H p = none → p ∉ w.cs := fun p hn z => by obtain ⟨o, e⟩ := R.thC p z; rw [hn] at e; cases e
  cases n with
  | lst p xs ds hp r =>
    exact o w _ _ (Ext.lay hp) (R.lay hp) ⟨p, _, rfl, rfl, x p hp, nC p hp, nF p hp, xs, upd_same, (Ext.lay hp).dvA r⟩
  | dK p kvs ps hp r =>
    exact o w _ _ (Ext.lay hp) (R.lay hp) ⟨p, _, rfl, rfl, x p hp, nC p hp, nF p hp, .inl ⟨kvs, upd_same, (Ext.lay hp).dvK r⟩⟩
  | dT p kvs ps hp r =>
    exact o w _ _ (Ext.lay hp) (R.lay hp) ⟨p, _, rfl, rfl, x p hp, nC p hp, nF p hp, .inr ⟨kvs, upd_same, (Ext.lay hp).dvT r⟩⟩
/-- what stood in an earlier state is not new -/
theorem Ext.old {T : Stat} {w w' : Wd} {H H' : Hp} {mh' : MH} (x : Ext w H w' H') (R' : RelH T w' mh' H') : ∀ a, H' a = none → H a = none := fun a h => by
  cases e : H a with
  | none => rfl
  | some o =>
    by_cases hc : a ∈ w.cs
    · obtain ⟨t, et⟩ := x.cs
      obtain ⟨o', e'⟩ := R'.thC a (by rw [et]; exact List.mem_append_left _ hc)
      rw [h] at e'; cases e'
    · have := x.there e hc
      rw [h] at this; cases this

/-! ### lists of expressions -/
section
variable {X : Cx} {J : Jd} {C : CallF}
theorem ma_nil : PA X [] (TDm J (evEs C .nil)) := PA.weak pa_nil fun σ H Q ⟨w, env, mh, R, o⟩ => o.now R.h DvA.nil
theorem ma_cons {e : E} {es : Es} {x : Expr} {xs : List Expr} (h : PE X x (TEm J (evE C e))) (hr : PA X xs (TDm J (evEs C es))) (hp : plainX x = true) : PA X (x :: xs) (TDm J (evEs C (.cons e es))) :=
  PA.weak (pa_cons h hr (star_of hp)) fun σ H Q ⟨w, env, mh, R, o⟩ => by
    refine ⟨w, env, mh, R, (OG.bind (rel := RvOk J.T) o).mono fun v H1 ⟨w1, rv, mh1, _, x1, R1, r1, o1⟩ => ?_⟩
    cases rv with
    | dat d =>
      refine ⟨w1, env, mh1, R.ext x1 R1, (OG.bind (rel := relDs J.T.g) o1).mono fun vs H2 ⟨w2, ds, mh2, _, x2, R2, r2, o2⟩ => ?_⟩
      exact o2.now R2 (DvA.cons (x2.dv r1) r2)
    | _ => exact o1.elim
theorem mv_nil : PA X [] (TVm J (evVs C .nil)) := PA.weak pa_nil fun σ H Q ⟨w, env, mh, R, o⟩ => o.now R.h RvsOk.nil
theorem mv_cons {e : E} {es : Es} {x : Expr} {xs : List Expr} (h : PE X x (TEm J (evE C e))) (hr : PA X xs (TVm J (evVs C es))) (hp : plainX x = true) : PA X (x :: xs) (TVm J (evVs C (.cons e es))) :=
  PA.weak (pa_cons h hr (star_of hp)) fun σ H Q ⟨w, env, mh, R, o⟩ => by
    refine ⟨w, env, mh, R, (OG.bind (rel := RvOk J.T) o).mono fun v H1 ⟨w1, rv, mh1, _, x1, R1, r1, o1⟩ => ?_⟩
    refine ⟨w1, env, mh1, R.ext x1 R1, (OG.bind (rel := RvsOk J.T) o1).mono fun vs H2 ⟨w2, ds, mh2, _, x2, R2, r2, o2⟩ => ?_⟩
    exact o2.now R2 (RvsOk.cons (x2.rv r1) r2)
theorem views_ok {T : Stat} {w : Wd} {mh : MH} {H : Hp} (R : RelH T w mh H) : ∀ {vs : List V} {rs : List RV} {ds : List PyData}, RvsOk T w H vs rs → views mh rs = some ds → WOkA T.g w.F H vs ds
  | _, _, _, .nil, e => by cases (Option.some.inj (show some [] = some _ from e)); exact .nil
  | _, _, ds, .cons (r := r) (rs := rs) h t, e => by
    unfold views at e
    split at e
    · rename_i d ds' e1 e2
      cases e
      exact .cons (h.view R e1) (views_ok R t e2)
    · cases e

/-! ### operators -/
theorem me_bin {op : Operator} {a b : E} {x y : Expr} {pos : Pos} (ha : PE X x (TEm J (evE C a))) (hb : PE X y (TEm J (evE C b))) (hg : J.T.g = ⟨X.prog, X.w⟩) : PE X (.BinOp x op y pos) (TEm J (evE C (.bin op a b))) :=
  PE.weak (pe_op (op_binM (g := J.T.g) op) ha hb) fun σ H Q ⟨w, env, mh, R, o⟩ => by
    refine ⟨w, env, mh, R, (OG.bind (rel := RvOk J.T) o).mono fun v H1 ⟨w1, rv, mh1, _, x1, R1, r1, o1⟩ => ?_⟩
    refine ⟨w1, env, mh1, R.ext x1 R1, (OG.bind (rel := RvOk J.T) o1).mono fun u H2 ⟨w2, ru, mh2, _, x2, R2, r2, o2⟩ => ?_⟩
    split at o2
    · rename_i d e h1 h2
      unfold ofD at o2
      split at o2
      · rename_i r hr
        exact ⟨w2.F, d, e, r, (x2.rv r1).view R2 h1, r2.view R2 h2, hr, fun v' H' n => o2.newD R2 n⟩
      · exact o2.elim
    · exact o2.elim
theorem mf_cat {a b : E} {x y : Expr} {pos : Pos} (ha : PE X x (TEm J (evE C a))) (hb : PE X y (TEm J (evE C b))) : PE X (.BinOp x .Add y pos) (TEf J (evE C (.cat a b))) :=
  PE.weak (pe_op op_catL ha hb) fun σ H Q ⟨w, env, mh, R, o⟩ => by
    refine ⟨w, env, mh, R, (OG.bind (rel := RvOk J.T) o).mono fun v H1 ⟨w1, rv, mh1, _, x1, R1, r1, o1⟩ => ?_⟩
    refine ⟨w1, env, mh1, R.ext x1 R1, (OG.bind (rel := RvOk J.T) o1).mono fun u H2 ⟨w2, ru, mh2, _, x2, R2, r2, o2⟩ => ?_⟩
    split at o2
    · rename_i xs ys h1 h2
      split at o2
      · rename_i hb
        obtain ⟨a1, vs, e1, g1, q1⟩ := ((x2.rv r1).view R2 h1).list
        obtain ⟨a2, us, e2, g2, q2⟩ := (r2.view R2 h2).list
        exact ⟨a1, a2, vs, us, e1, e2, g1, g2, by rw [q1.length, q2.length]; exact big_le hb, fun p hp => NewF.fresh o2 R2 (fun a h => x1.old R1 a (x2.old R2 a h)) (.lst p _ _ hp (q1.append q2))⟩
      · exact o2.elim
    · exact o2.elim
theorem me_neg {a : E} {x : Expr} {pos : Pos} (ha : PE X x (TEm J (evE C a))) : PE X (.UnaryOp .USub x pos) (TEm J (evE C (.neg a))) :=
  PE.weak (pe_un un_neg ha) fun σ H Q ⟨w, env, mh, R, o⟩ => by
    refine ⟨w, env, mh, R, (OG.bind (rel := RvOk J.T) o).mono fun v H1 ⟨w1, rv, mh1, _, x1, R1, r1, o1⟩ => ?_⟩
    split at o1
    · cases r1
      exact ⟨_, rfl, o1.val R1 (.int _)⟩
    · exact o1.elim
theorem me_cmp {op : CmpOp} {a b : E} {x y : Expr} {pos : Pos} (hg : J.T.g = ⟨X.prog, X.w⟩) (hu : X.A.units + 200 < cLine) (ha : PE X x (TEm J (evE C a))) (hb : PE X y (TEm J (evE C b))) (hp : plainX y = true) :
    PE X (.Compare x [op] [y] pos) (TEm J (evE C (.cmp op a b))) :=
  PE.weak (pe_cmpR (op_cmpM hg hu op) ha hb (nomarks hp)) fun σ H Q ⟨w, env, mh, R, o⟩ => by
    refine ⟨w, env, mh, R, (OG.bind (rel := RvOk J.T) o).mono fun v H1 ⟨w1, rv, mh1, _, x1, R1, r1, o1⟩ => ?_⟩
    refine ⟨w1, env, mh1, R.ext x1 R1, (OG.bind (rel := RvOk J.T) o1).mono fun u H2 ⟨w2, ru, mh2, _, x2, R2, r2, o2⟩ => ?_⟩
    split at o2
    · rename_i d e h1 h2
      unfold ofB at o2
      split at o2
      · rename_i r hr
        exact ⟨w2.F, d, e, r, (x2.rv r1).view R2 h1, r2.view R2 h2, hr, o2.val R2 (.bl _)⟩
      · exact o2.elim
    · exact o2.elim
theorem mt_cmp {op : CmpOp} {a b : E} {x y : Expr} {pos : Pos} (hg : J.T.g = ⟨X.prog, X.w⟩) (hu : X.A.units + 200 < cLine) (ha : PE X x (TEm J (evE C a))) (hb : PE X y (TEm J (evE C b))) (hp : plainX y = true) :
    PT X (.Compare x [op] [y] pos) (TTm J (evT C (.cmp op a b))) :=
  PT.weak (pt_cmpR (op_cmpM hg hu op) ha hb (nomarks hp)) fun σ H Q ⟨w, env, mh, R, o⟩ => by
    refine ⟨w, env, mh, R, (OG.bind (rel := RvOk J.T) o).mono fun v H1 ⟨w1, rv, mh1, _, x1, R1, r1, o1⟩ => ?_⟩
    refine ⟨w1, env, mh1, R.ext x1 R1, (OG.bind (rel := RvOk J.T) o1).mono fun u H2 ⟨w2, ru, mh2, _, x2, R2, r2, o2⟩ => ?_⟩
    split at o2
    · rename_i d e h1 h2
      unfold ofT at o2
      split at o2
      · rename_i r hr
        exact ⟨w2.F, d, e, r, (x2.rv r1).view R2 h1, r2.view R2 h2, hr, r, rfl, OG.now (rel := relB) o2 R2 rfl⟩
      · exact o2.elim
    · exact o2.elim
theorem me_chain {op op' : CmpOp} {a b c : E} {x y z : Expr} {pos : Pos} (hg : J.T.g = ⟨X.prog, X.w⟩) (hu : X.A.units + 200 < cLine) (ha : PE X x (TEm J (evE C a))) (hb : PE X y (TEm J (evE C b))) (hc : PE X z (TEm J (evE C c))) (hp : plainX z = true) :
    PE X (.Compare x [op, op'] [y, z] pos) (TEm J (evE C (.chain op op' a b c))) :=
  PE.weak (pe_chain (op_cmpM hg hu op) (op_cmpM hg hu op') ha hb hc (nomarks hp)) fun σ H Q ⟨w, env, mh, R, o⟩ => by
    refine ⟨w, env, mh, R, (OG.bind (rel := RvOk J.T) o).mono fun v H1 ⟨w1, rv, mh1, _, x1, R1, r1, o1⟩ => ?_⟩
    refine ⟨w1, env, mh1, R.ext x1 R1, (OG.bind (rel := RvOk J.T) o1).mono fun u H2 ⟨w2, ru, mh2, _, x2, R2, r2, o2⟩ => ?_⟩
    split at o2
    · rename_i d e h1 h2
      split at o2
      · rename_i hr
        refine ⟨w2.F, d, e, true, (x2.rv r1).view R2 h1, r2.view R2 h2, hr, true, rfl, ?_⟩
        rw [if_pos rfl]
        refine ⟨w2, env, mh2, (R.ext x1 R1).ext x2 R2, (OG.bind (rel := RvOk J.T) o2).mono fun t H3 ⟨w3, rt, mh3, _, x3, R3, r3, o3⟩ => ?_⟩
        split at o3
        · rename_i e' f h2' h3
          unfold ofB at o3
          split at o3
          · rename_i r hr'
            exact ⟨w3.F, e', f, r, (x3.rv r2).view R3 h2', r3.view R3 h3, hr', o3.val R3 (.bl _)⟩
          · exact o3.elim
        · exact o3.elim
      · rename_i hr
        exact ⟨w2.F, d, e, false, (x2.rv r1).view R2 h1, r2.view R2 h2, hr, false, rfl, o2.val R2 (.bl _)⟩
      · exact o2.elim
    · exact o2.elim
theorem mt_chain {op op' : CmpOp} {a b c : E} {x y z : Expr} {pos : Pos} (hg : J.T.g = ⟨X.prog, X.w⟩) (hu : X.A.units + 200 < cLine) (ha : PE X x (TEm J (evE C a))) (hb : PE X y (TEm J (evE C b))) (hc : PE X z (TEm J (evE C c))) (hp : plainX z = true) :
    PT X (.Compare x [op, op'] [y, z] pos) (TTm J (evT C (.chain op op' a b c))) :=
  PT.weak (pt_chain (op_cmpM hg hu op) (op_cmpM hg hu op') ha hb hc (nomarks hp)) fun σ H Q ⟨w, env, mh, R, o⟩ => by
    refine ⟨w, env, mh, R, (OG.bind (rel := RvOk J.T) o).mono fun v H1 ⟨w1, rv, mh1, _, x1, R1, r1, o1⟩ => ?_⟩
    refine ⟨w1, env, mh1, R.ext x1 R1, (OG.bind (rel := RvOk J.T) o1).mono fun u H2 ⟨w2, ru, mh2, _, x2, R2, r2, o2⟩ => ?_⟩
    split at o2
    · rename_i d e h1 h2
      split at o2
      · rename_i hr
        refine ⟨w2.F, d, e, true, (x2.rv r1).view R2 h1, r2.view R2 h2, hr, true, rfl, ?_⟩
        rw [if_pos rfl]
        refine ⟨w2, env, mh2, (R.ext x1 R1).ext x2 R2, (OG.bind (rel := RvOk J.T) o2).mono fun t H3 ⟨w3, rt, mh3, _, x3, R3, r3, o3⟩ => ?_⟩
        split at o3
        · rename_i e' f h2' h3
          unfold ofT at o3
          split at o3
          · rename_i r hr'
            exact ⟨w3.F, e', f, r, (x3.rv r2).view R3 h2', r3.view R3 h3, hr', r, rfl, OG.now (rel := relB) o3 R3 rfl⟩
          · exact o3.elim
        · exact o3.elim
      · rename_i hr
        refine ⟨w2.F, d, e, false, (x2.rv r1).view R2 h1, r2.view R2 h2, hr, false, rfl, ?_⟩
        rw [if_neg (by simp)]
        exact ⟨false, rfl, OG.now (rel := relB) o2 R2 rfl⟩
      · exact o2.elim
    · exact o2.elim
/-! ### and, or, not, if -/
theorem tB_of {x : V} {rv : RV} {w : Wd} {H : Hp} {b : Bool} (r : RvOk J.T w H x rv) (e : rv = .dat (.bool b)) : x = .bl b := by subst e; cases r; rfl
theorem me_and {a b : E} {x y : Expr} {rest : List Expr} {pos : Pos} (ha : PE X x (TEm J (evE C a))) (hb : PE X (.BoolOp .And (y :: rest) pos) (TEm J (evE C b))) : PE X (.BoolOp .And (x :: y :: rest) pos) (TEm J (evE C (.and_ a b))) :=
  PE.weak (pe_and ha hb) fun σ H Q ⟨w, env, mh, R, o⟩ => by
    refine ⟨w, env, mh, R, (OG.bind (rel := RvOk J.T) o).mono fun v H1 ⟨w1, rv, mh1, _, x1, R1, r1, o1⟩ => ?_⟩
    split at o1
    · refine ⟨true, tB_of r1 rfl, ?_⟩
      rw [if_pos rfl]
      exact ⟨w1, env, mh1, R.ext x1 R1, o1⟩
    · refine ⟨false, tB_of r1 rfl, ?_⟩
      rw [if_neg (by simp)]
      exact o1.val R1 (.bl _)
    · exact o1.elim
theorem me_or {a b : E} {x y : Expr} {rest : List Expr} {pos : Pos} (ha : PE X x (TEm J (evE C a))) (hb : PE X (.BoolOp .Or (y :: rest) pos) (TEm J (evE C b))) : PE X (.BoolOp .Or (x :: y :: rest) pos) (TEm J (evE C (.or_ a b))) :=
  PE.weak (pe_or ha hb) fun σ H Q ⟨w, env, mh, R, o⟩ => by
    refine ⟨w, env, mh, R, (OG.bind (rel := RvOk J.T) o).mono fun v H1 ⟨w1, rv, mh1, _, x1, R1, r1, o1⟩ => ?_⟩
    split at o1
    · refine ⟨false, tB_of r1 rfl, ?_⟩
      rw [if_neg (by simp)]
      exact ⟨w1, env, mh1, R.ext x1 R1, o1⟩
    · refine ⟨true, tB_of r1 rfl, ?_⟩
      rw [if_pos rfl]
      exact o1.val R1 (.bl _)
    · exact o1.elim
theorem mw_and {a b : E} {x y : Expr} {rest : List Expr} {pos : Pos} (ha : PT X x (TTm J (evT C a))) (hb : PW X (.BoolOp .And (y :: rest) pos) (TTm J (evT C b))) : PW X (.BoolOp .And (x :: y :: rest) pos) (TTm J (evT C (.and_ a b))) :=
  PW.weak (pw_and ha hb) fun σ H Q ⟨w, env, mh, R, o⟩ => by
    refine ⟨w, env, mh, R, (OG.bind (rel := relB) o).mono fun v H1 ⟨w1, rv, mh1, _, x1, R1, r1, o1⟩ => ?_⟩
    cases (show v = rv from r1)
    cases v with
    | true => rw [if_pos rfl]; exact ⟨w1, env, mh1, R.ext x1 R1, o1⟩
    | false => rw [if_neg (by simp)]; exact OG.now (rel := relB) o1 R1 rfl
theorem mw_or {a b : E} {x y : Expr} {rest : List Expr} {pos : Pos} (ha : PT X x (TTm J (evT C a))) (hb : PW X (.BoolOp .Or (y :: rest) pos) (TTm J (evT C b))) : PW X (.BoolOp .Or (x :: y :: rest) pos) (TTm J (evT C (.or_ a b))) :=
  PW.weak (pw_or ha hb) fun σ H Q ⟨w, env, mh, R, o⟩ => by
    refine ⟨w, env, mh, R, (OG.bind (rel := relB) o).mono fun v H1 ⟨w1, rv, mh1, _, x1, R1, r1, o1⟩ => ?_⟩
    cases (show v = rv from r1)
    cases v with
    | true => rw [if_pos rfl]; exact OG.now (rel := relB) o1 R1 rfl
    | false => rw [if_neg (by simp)]; exact ⟨w1, env, mh1, R.ext x1 R1, o1⟩
theorem un_notM : UnR X (unaryOp .Not) (fun x H Q => rTruM J.T.g x H fun b H' => Q (.bl !b) H') := by
  intro pins s σ H x v Q I rx h
  exact not_of (thn (tru_M (g := J.T.g) pins s σ H x v _ I rx h) fun b s1 ⟨H1, I1, q⟩ => ⟨.bl _, H1, I1, rfl, q⟩)
theorem me_not {a : E} {x : Expr} {pos : Pos} (ha : PE X x (TEm J (evE C a))) : PE X (.UnaryOp .Not x pos) (TEm J (evE C (.not_ a))) :=
  PE.weak (pe_un (un_notM (J := J)) ha) fun σ H Q ⟨w, env, mh, R, o⟩ => by
    refine ⟨w, env, mh, R, (OG.bind (rel := RvOk J.T) o).mono fun v H1 ⟨w1, rv, mh1, _, x1, R1, r1, o1⟩ => ?_⟩
    split at o1
    · rename_i d hd
      unfold ofB at o1
      split at o1
      · rename_i b hb
        have e := map_not hb
        exact ⟨w1.F, d, !b, r1.view R1 hd, e, by show Q (.bl !!b) H1; rw [Bool.not_not]; exact o1.val R1 (.bl _)⟩
      · exact o1.elim
    · exact o1.elim
theorem mt_not {a : E} {x : Expr} {pos : Pos} (ha : PT X x (TTm J (evT C a))) : PT X (.UnaryOp .Not x pos) (TTm J (evT C (.not_ a))) :=
  PT.weak (pt_not ha) fun σ H Q ⟨w, env, mh, R, o⟩ => by
    refine ⟨w, env, mh, R, (OG.bind (rel := relB) o).mono fun v H1 ⟨w1, rv, mh1, _, x1, R1, r1, o1⟩ => ?_⟩
    cases (show v = rv from r1)
    exact OG.now (rel := relB) o1 R1 rfl
theorem me_ite {c a b : E} {x y z : Expr} {pos : Pos} (hc : PT X x (TTm J (evT C c))) (ha : PE X y (TEm J (evE C a))) (hb : PE X z (TEm J (evE C b))) : PE X (.IfExp x y z pos) (TEm J (evE C (.ite c a b))) :=
  PE.weak (pe_ifExp hc ha hb) fun σ H Q ⟨w, env, mh, R, o⟩ => by
    refine ⟨w, env, mh, R, (OG.bind (rel := relB) o).mono fun v H1 ⟨w1, rv, mh1, _, x1, R1, r1, o1⟩ => ?_⟩
    cases (show v = rv from r1)
    cases v with
    | true => rw [if_pos rfl]; exact ⟨w1, env, mh1, R.ext x1 R1, o1⟩
    | false => rw [if_neg (by simp)]; exact ⟨w1, env, mh1, R.ext x1 R1, o1⟩
theorem mt_ite {c a b : E} {x y z : Expr} {pos : Pos} (hc : PT X x (TTm J (evT C c))) (ha : PT X y (TTm J (evT C a))) (hb : PT X z (TTm J (evT C b))) : PT X (.IfExp x y z pos) (TTm J (evT C (.ite c a b))) := by
  refine ⟨fun pins s σ H Q I ⟨w, env, mh, R, o⟩ => ?_⟩
  have q : TTm J (evT C c) σ H fun v H1 => if v = true then TTm J (evT C a) σ H1 Q else TTm J (evT C b) σ H1 Q := by
    refine ⟨w, env, mh, R, (OG.bind (rel := relB) o).mono fun v H1 ⟨w1, rv, mh1, _, x1, R1, r1, o1⟩ => ?_⟩
    cases (show v = rv from r1)
    cases v with
    | true => rw [if_pos rfl]; exact ⟨w1, env, mh1, R.ext x1 R1, o1⟩
    | false => rw [if_neg (by simp)]; exact ⟨w1, env, mh1, R.ext x1 R1, o1⟩
  show wpAny _ _ (do if ← isTrue x X.env (eval x X.env) then isTrue y X.env (eval y X.env) else isTrue z X.env (eval z X.env)) _ _ s
  refine wpAny_bind (thn (hc.run pins s σ H _ I q) fun v s1 ⟨H1, I1, q1⟩ => ?_)
  cases v with
  | true => rw [if_pos rfl] at q1; exact ha.run pins s1 σ H1 Q I1 q1
  | false => rw [if_neg (by simp)] at q1; exact hb.run pins s1 σ H1 Q I1 q1
/-- a value's test -/
theorem mt_val {a : E} {x : Expr} (ha : PE X x (TEm J (evE C a))) (hm : (evP C a).2 = (tv (evP C a).1).2) (he : ∀ whole, isTrue x X.env whole = (do let v ← whole; standAt x.pos; holding [v] (truthy v))) : PT X x (TTm J (evT C a)) := by
  refine PT.weak (show PT X x (fun σ H Q => TEm J (evE C a) σ H fun v H1 => rTruM J.T.g v H1 Q) from ⟨fun pins s σ H Q I h => isTrue_plain (thn (ha.run pins s σ H _ I h) fun v s1 ⟨y, H1, I1, r1, q1⟩ => tru_M pins s1 σ H1 y v Q I1 r1 q1) (he _)⟩) fun σ H Q ⟨w, env, mh, R, o⟩ => ?_
  have o : OG J.T relB (fun c d H' => J.W c d σ H') w H ((evP C a).2 env mh) Q := o
  rw [hm] at o
  refine ⟨w, env, mh, R, (OG.bind (rel := RvOk J.T) o).mono fun v H1 ⟨w1, rv, mh1, _, x1, R1, r1, o1⟩ => ?_⟩
  split at o1
  · rename_i d hd
    unfold ofT at o1
    split at o1
    · rename_i b hb
      exact ⟨w1.F, d, b, r1.view R1 hd, hb, OG.now (rel := relB) o1 R1 rfl⟩
    · exact o1.elim
  · exact o1.elim

/-! ### displays, subscripts, slices -/
theorem me_tup {es : Es} {xs : List Expr} {k : Nat} {pos : Pos} (h : PA X xs (TDm J (evEs C es))) : PE X (.Tuple xs k pos) (TEm J (evE C (.tup es))) :=
  PE.weak (pe_tupF h) fun σ H Q ⟨w, env, mh, R, o⟩ => by
    refine ⟨w, env, mh, R, (OG.bind (rel := relDs J.T.g) o).mono fun vs H1 ⟨w1, ds, mh1, _, x1, R1, r1, o1⟩ => ?_⟩
    split at o1
    · rename_i hb
      exact ⟨by rw [DvA.length r1]; exact big_le hb, fun p ob hp ho => o1.newD R1 (.tup hp ho r1)⟩
    · exact o1.elim
theorem mf_lst {es : Es} {xs : List Expr} {pos : Pos} (h : PA X xs (TDm J (evEs C es))) : PE X (.List xs pos) (TEf J (evE C (.lst es))) :=
  PE.weak (pe_lst h) fun σ H Q ⟨w, env, mh, R, o⟩ => by
    refine ⟨w, env, mh, R, (OG.bind (rel := relDs J.T.g) o).mono fun vs H1 ⟨w1, ds, mh1, _, x1, R1, r1, o1⟩ => ?_⟩
    split at o1
    · rename_i hb
      exact ⟨by rw [DvA.length r1]; exact big_le hb, fun p hp => NewF.fresh o1 R1 (x1.old R1) (.lst p vs ds hp r1)⟩
    · exact o1.elim
theorem me_idx {a b : E} {x y : Expr} {pos : Pos} (hg : J.T.g = ⟨X.prog, X.w⟩) (hu : X.A.units + 200 < cLine) (ha : PE X x (TEm J (evE C a))) (hb : PE X y (TEm J (evE C b))) (hp : plainX y = true) : PE X (.Subscript x y pos) (TEm J (evE C (.idx a b))) :=
  PE.weak (pe_ix (ix_M hg hu) ha hb (plainIx_of hp)) fun σ H Q ⟨w, env, mh, R, o⟩ => by
    refine ⟨w, env, mh, R, (OG.bind (rel := RvOk J.T) o).mono fun v H1 ⟨w1, rv, mh1, _, x1, R1, r1, o1⟩ => ?_⟩
    refine ⟨w1, env, mh1, R.ext x1 R1, (OG.bind (rel := RvOk J.T) o1).mono fun u H2 ⟨w2, ru, mh2, _, x2, R2, r2, o2⟩ => ?_⟩
    split at o2
    · rename_i d e h1 h2
      unfold ofD at o2
      split at o2
      · rename_i r hr
        exact ⟨w2.F, d, e, r, (x2.rv r1).view R2 h1, r2.view R2 h2, hr, fun v' n => o2.val R2 n⟩
      · exact o2.elim
    · exact o2.elim
def optX (b : Bool) (x : Expr) : Option Expr := if b then some x else none
/-- a slice's part -/
def relO (_ : Wd) (_ : Hp) (o o' : Option Int) : Prop := o = o'
def TOm (J : Jd) (m : MEnv → MH → Out (Option Int)) : TO := fun σ H Q => ∃ w env mh, Rel J.T J.B w env mh σ H ∧ OG J.T Mn.relO (fun c d H' => J.W c d σ H') w H (m env mh) Q
theorem PO.weak {e : Option Expr} {t t' : TO} (h : PO X e t) (k : ∀ σ H Q, t' σ H Q → t σ H Q) : PO X e t' := ⟨fun pins s σ H Q I q => h.run pins s σ H Q I (k σ H Q q)⟩
theorem mo_part {b : Bool} {e : E} {x : Expr} (h : b = true → PE X x (TEm J (evE C e))) : PO X (optX b x) (TOm J (partO b (evE C e))) := by
  cases b with
  | true =>
    refine PO.weak (po_some (h rfl)) fun σ H Q ⟨w, env, mh, R, o⟩ => ?_
    have o : OG J.T Mn.relO (fun c d H' => J.W c d σ H') w H (((evE C e) env mh).bind fun y mh => (match y with | .dat (.int i) => .ok (some i) mh | _ => .stuck)) Q := o
    refine ⟨w, env, mh, R, (OG.bind (rel := RvOk J.T) o).mono fun v H1 ⟨w1, rv, mh1, _, x1, R1, r1, o1⟩ => ?_⟩
    split at o1
    · cases r1
      exact ⟨_, rfl, OG.now (rel := Mn.relO) o1 R1 rfl⟩
    · exact o1.elim
  | false =>
    refine PO.weak po_none fun σ H Q ⟨w, env, mh, R, o⟩ => ?_
    exact OG.now (rel := Mn.relO) o R.h rfl
theorem me_slc {lo hi : Bool} {a l h : E} {x y z : Expr} {pos p2 : Pos} (ha : PE X x (TEm J (evE C a))) (hl : lo = true → PE X y (TEm J (evE C l))) (hh : hi = true → PE X z (TEm J (evE C h))) : PE X (.Subscript x (.Slice (optX lo y) (optX hi z) none p2) pos) (TEm J (evE C (.slc lo hi a l h))) :=
  PE.weak (pe_slice (sl_M (g := J.T.g)) ha (mo_part hl) (mo_part hh)) fun σ H Q ⟨w, env, mh, R, o⟩ => by
    refine ⟨w, env, mh, R, (OG.bind (rel := RvOk J.T) o).mono fun v H1 ⟨w1, rv, mh1, _, x1, R1, r1, o1⟩ => ?_⟩
    refine ⟨w1, env, mh1, R.ext x1 R1, (OG.bind (rel := Mn.relO) o1).mono fun p H2 ⟨w2, p', mh2, _, x2, R2, r2, o2⟩ => ?_⟩
    cases (show p = p' from r2)
    refine ⟨w2, env, mh2, (R.ext x1 R1).ext x2 R2, (OG.bind (rel := Mn.relO) o2).mono fun q H3 ⟨w3, q', mh3, _, x3, R3, r3, o3⟩ => ?_⟩
    cases (show q = q' from r3)
    split at o3
    · rename_i d hd
      unfold ofD at o3
      split at o3
      · rename_i r hr
        exact ⟨w3.F, d, r, (x3.rv (x2.rv r1)).view R3 hd, hr, fun v' H' n => o3.newD R3 n⟩
      · exact o3.elim
    · exact o3.elim

/-! ### built-in functions -/
theorem mB {b : Blt} {es : Es} {t : TA} (hv : ∀ σ H (Q : VK), TEm J (evE C (.blt b es)) σ H Q → t σ H fun xs H1 => rBltM J.T.g b xs H1 Q) : True := trivial
theorem tBlt {b : Blt} {es : Es} {σ : L2.St} {H : Hp} {Q : VK} (h : TEm J (evE C (.blt b es)) σ H Q) : TVm J (evVs C es) σ H fun xs H1 => rBltM J.T.g b xs H1 Q := by
  obtain ⟨w, env, mh, R, o⟩ := h
  refine ⟨w, env, mh, R, (OG.bind (rel := RvsOk J.T) o).mono fun vs H1 ⟨w1, rs, mh1, _, x1, R1, r1, o1⟩ => ?_⟩
  split at o1
  · rename_i ds hd
    unfold ofD at o1
    split at o1
    · rename_i r hr
      exact ⟨w1.F, ds, r, views_ok R1 r1 hd, hr, fun v H' n => o1.newD R1 n⟩
    · exact o1.elim
  · exact o1.elim
theorem tBltF {b : Blt} {es : Es} {σ : L2.St} {H : Hp} {Q : VK} (h : TEf J (evE C (.blt b es)) σ H Q) : TVm J (evVs C es) σ H fun xs H1 => rBltF J.T.g b xs H1 Q := by
  obtain ⟨w, env, mh, R, o⟩ := h
  refine ⟨w, env, mh, R, (OG.bind (rel := RvsOk J.T) o).mono fun vs H1 ⟨w1, rs, mh1, _, x1, R1, r1, o1⟩ => ?_⟩
  split at o1
  · rename_i ds hd
    unfold ofD at o1
    split at o1
    · rename_i r hr
      exact ⟨w1.F, ds, r, views_ok R1 r1 hd, hr, fun v H' n => NewF.fresh o1 R1 (x1.old R1) n⟩
    · exact o1.elim
  · exact o1.elim
/-- a built-in's name -/
def Blt.fn : Blt → Option Str
  | .len => some "len"
  | .sorted => some "sorted"
  | .all => some "all"
  | .any => some "any"
  | .abs => some "abs"
  | .min2 => some "min"
  | _ => none
def Blt.ty : Blt → Option Str
  | .tup => some "tuple"
  | .lst => some "list"
  | .dct => some "dict"
  | .int => some "int"
  | .str => some "str"
  | _ => none
def Blt.id : Blt → String
  | .len => "len"
  | .sorted => "sorted"
  | .all => "all"
  | .any => "any"
  | .abs => "abs"
  | .min2 => "min"
  | .tup => "tuple"
  | .lst => "list"
  | .dct => "dict"
  | .int => "int"
  | .str => "str"
def Blt.isTy : Blt → Bool
  | .tup => true
  | .lst => true
  | .dct => true
  | .int => true
  | .str => true
  | _ => false
def Blt.cool : Blt → Bool
  | .all => true
  | .any => true
  | .min2 => true
  | .dct => true
  | _ => false
def Blt.fresh : Blt → Bool
  | .lst => true
  | .dct => true
  | .sorted => true
  | _ => false
def Blt.val (b : Blt) : Value := if b.isTy then .type b.id else .builtin b.id
theorem cb_any' {b : Blt} {g : Pw} (hg : g = ⟨X.prog, X.w⟩) (hu : X.A.units + 200 < cLine) (hc : b.cool = true → X.calm = true) (hf : b.fresh = false) : CallR X b.val (rBltM g b) := by
  cases b with
  | len => exact cb_len hg
  | tup => exact cb_tup
  | lst => cases hf
  | dct => cases hf
  | sorted => cases hf
  | all => exact cb_all (hc rfl)
  | any => exact cb_any (hc rfl)
  | int => exact cb_int
  | str => exact cb_str
  | abs => exact cb_abs
  | min2 => exact cb_min (hc rfl)
theorem cb_new' {b : Blt} {g : Pw} (hu : X.A.units + 200 < cLine) (hc : b.cool = true → X.calm = true) (hf : b.fresh = true) : CallR X b.val (rBltF g b) := by
  cases b with
  | lst => exact cb_lst
  | dct => exact cb_dct (hc rfl)
  | sorted => exact cb_sorted hu
  | _ => cases hf
theorem Blt.boot (b : Blt) : bootBuiltins b.id = some b.val := by cases b <;> first | rfl | decide +kernel
theorem pe_blt {b : Blt} {r : List V → Hp → VK → Prop} {e : Expr} {es : List Expr} {t : TA} {p pos : Pos} (hr : CallR X b.val r) (hg : Gl X b.id) (hm : X.mg b.id = none) (ha : PA X (e :: es) t) (hp : (e :: es).all plainX = true) : PE X (.Call (.Name b.id p) (e :: es) [] pos) (tCB r t) := by
  rw [List.all_cons, Bool.and_eq_true] at hp
  have hv := b.boot
  have h1 : (b.id : Str) ≠ "__name__" := by cases b <;> decide
  have h2 : ((b.id : Str) == ("__debug__" : Str)) = false := by cases b <;> decide
  unfold Blt.val at hr hv
  cases hb : b.isTy with
  | true =>
    rw [hb, if_pos rfl] at hr hv
    exact pe_callTy hr hg hm hv ha h1 h2 (star_of hp.1) (star_any hp.2)
  | false =>
    rw [hb, if_neg (by simp)] at hr hv
    exact pe_callB hr hg hm hv ha h1 h2 (star_of hp.1) (star_any hp.2)
theorem me_blt {b : Blt} {es : Es} {x : Expr} {xs : List Expr} {p pos : Pos} (hgg : J.T.g = ⟨X.prog, X.w⟩) (hu : X.A.units + 200 < cLine) (hc : b.cool = true → X.calm = true) (hf : b.fresh = false) (hg : Gl X b.id) (hm : X.mg b.id = none) (ha : PA X (x :: xs) (TVm J (evVs C es))) (hp : (x :: xs).all plainX = true) :
    PE X (.Call (.Name b.id p) (x :: xs) [] pos) (TEm J (evE C (.blt b es))) :=
  PE.weak (pe_blt (cb_any' hgg hu hc hf) hg hm ha hp) fun σ H Q h => tBlt h
theorem mf_blt {b : Blt} {es : Es} {x : Expr} {xs : List Expr} {p pos : Pos} (hu : X.A.units + 200 < cLine) (hc : b.cool = true → X.calm = true) (hf : b.fresh = true) (hg : Gl X b.id) (hm : X.mg b.id = none) (ha : PA X (x :: xs) (TVm J (evVs C es))) (hp : (x :: xs).all plainX = true) :
    PE X (.Call (.Name b.id p) (x :: xs) [] pos) (TEf J (evE C (.blt b es))) :=
  PE.weak (pe_blt (cb_new' (g := J.T.g) hu hc hf) hg hm ha hp) fun σ H Q h => tBltF h
/-- list(), dict() with nothing are not served; isinstance of a built-in class -/
theorem bootTy (t : Ty) (ht : t ≠ .lt) : bootBuiltins t.name = some (.type t.name) := by cases t <;> first | exact absurd rfl ht | rfl | decide +kernel
theorem me_isi {a : E} {t : Ty} {x : Expr} {p p2 pos : Pos} (hgg : J.T.g = ⟨X.prog, X.w⟩) (ht : t ≠ .lt) (hg : Gl X "isinstance") (hm : X.mg "isinstance" = none) (hg2 : Gl X t.name) (hm2 : X.mg t.name = none) (ha : PE X x (TEm J (evE C a))) (hp : plainX x = true) :
    PE X (.Call (.Name "isinstance" p) [x, .Name t.name p2] [] pos) (TEm J (evE C (.isi a t))) := by
  have hn1 : (t.name : Str) ≠ "__name__" := by cases t <;> decide
  have hn2 : ((t.name : Str) == ("__debug__" : Str)) = false := by cases t <;> decide
  have hT : PE X (.Name t.name p2) (tC (.ty t.name)) := pe_bltn hg2 hm2 (bootTy t ht) rfl hn1 hn2
  refine PE.weak (pe_callB (cb_isi hgg t) hg hm (by decide +kernel) (pa_cons ha (pa_cons hT pa_nil (star_of rfl)) (star_of hp)) (by decide) (by decide) (star_of hp) (star_any (es := [.Name t.name p2]) rfl)) fun σ H Q ⟨w, env, mh, R, o⟩ => ?_
  refine ⟨w, env, mh, R, (OG.bind (rel := RvOk J.T) o).mono fun v H1 ⟨w1, rv, mh1, _, x1, R1, r1, o1⟩ => ?_⟩
  split at o1
  · rename_i d hd
    exact ⟨w1.F, v, d, rfl, ht, r1.view R1 hd, o1.val R1 (.bl _)⟩
  · exact o1.elim
end
end Mn
end
section
set_option linter.all false
set_option autoImplicit false
set_option maxRecDepth 100000
/-! Mini: rules for calls, methods, comprehensions. -/
namespace Mn
open PySem PySem.Spec PyProof.Rows L2

/-- what a def does, as the hand layer asks it -/
def spM (T : Stat) (n : Nat) (m : List RV → MH → Out RV) : Sp := fun vs H Q E => ∃ w rs mh, RelH T w mh H ∧ RvsOk T w H vs rs ∧ rs.length = n ∧ OG T (RvN T H) E w H (m rs mh) Q
theorem RvsOk.length {T : Stat} {w : Wd} {H : Hp} : ∀ {vs : List V} {rs : List RV}, RvsOk T w H vs rs → vs.length = rs.length
  | _, _, .nil => rfl
  | _, _, .cons _ t => by rw [List.length_cons, List.length_cons, t.length]
/-- a def that the code may call -/
structure FnAt (X : Cx) (T : Stat) (x : Str) (n : Nat) (m : List RV → MH → Out RV) : Prop where
  fn : ∃ (k : Nat) (f : Addr) (fd : FuncData) (ps : List Str), FnOk X.prog X.w X.K X.mg X.base (L2N.CX X.prog X.w) k f fd ps (spM T n m) ∧ Room k X.A ∧ X.mg x = some (.ref f) ∧ PySem.W.keepIn X.K (.ref f) = true ∧ Binds X.K fd ps []
  db : (x == ("__debug__" : Str)) = false
  len : ∀ rs mh, rs.length ≠ n → m rs mh = .stuck

section
variable {X : Cx} {J : Jd} {C : CallF}
theorem me_call {f n : Nat} {es : Es} {x : Str} {e : Expr} {xs : List Expr} {p pos : Pos} (F : FnAt X J.T x n (C.call f)) (tk : L2N.Takes X J.W) (hg : Gl X x) (ha : PA X (e :: xs) (TVm J (evVs C es))) (hp : (e :: xs).all plainX = true) :
    PE X (.Call (.Name x p) (e :: xs) [] pos) (TEc J (evE C (.call f es))) := by
  obtain ⟨k, a, fd, ps, F1, hr, hm, hk, hb⟩ := F.fn
  have hp' := hp
  rw [List.all_cons, Bool.and_eq_true] at hp'
  refine PE.weak (pe_callSD F1 hr hg hm hk hb .nil (fun σ => L2N.passAt tk σ) ha F.db (star_of hp'.1) (star_any hp'.2)) fun σ H Q ⟨w, env, mh, R, o⟩ => ?_
  refine ⟨w, env, mh, R, (OG.bind (rel := RvsOk J.T) o).mono fun vs H1 ⟨w1, rs, mh1, _, x1, R1, r1, o1⟩ => ?_⟩
  split at o1
  · have hl : rs.length = n := by
      by_cases q : rs.length = n
      · exact q
      · rw [F.len rs mh1 q] at o1; exact o1.elim
    rw [List.append_nil]
    exact ⟨w1, rs, mh1, R1, r1, hl, o1.rel fun w' H' b a x q => ⟨q.1, fun h ad e => x1.old R1 ad (q.2 h ad e)⟩⟩
  · exact o1.elim

/-! ### a call that sees no cell -/
def backW (w1 w2 : Wd) (H1 : Hp) : Wd := ⟨fun x => w1.F x ∨ (w2.F x ∧ H1 x = none), w1.cs⟩
theorem back_ext {w0 w1 w2 : Wd} {H1 H2 : Hp} (x : Ext w0 H1 w2 H2) (h0 : w0.cs = []) : Ext w1 H1 (backW w1 w2 H1) H2 where
  F := fun _ h => .inl h
  F' := fun a h => by
    rcases h with h | h
    · exact .inl h
    · exact .inr (.inl h.2)
  cs := ⟨[], by simp [backW]⟩
  cs' := fun _ h => .inl h
  H := fun a o e _ => x.there e (by rw [h0]; simp)
theorem back_rel {T : Stat} {w0 w1 w2 : Wd} {H1 H2 : Hp} {mh mh' : MH} (x : Ext w0 H1 w2 H2) (h0 : w0.cs = []) (R1 : RelH T w1 mh H1) (R2 : RelH T w2 mh' H2) : RelH T (backW w1 w2 H1) mh H2 where
  len := R1.len
  nd := R1.nd
  thF := fun a h => by
    rcases h with h | h
    · obtain ⟨o, e⟩ := R1.thF a h
      exact ⟨o, x.there e (by rw [h0]; simp)⟩
    · exact R2.thF a h.1
  thC := fun a h => by
    obtain ⟨o, e⟩ := R1.thC a h
    exact ⟨o, x.there e (by rw [h0]; simp)⟩
  ok := fun n c a h1 h2 => (R1.ok n c a h1 h2).ext (back_ext x h0) fun o e => x.there e (by rw [h0]; simp)
  live := fun n c a h1 h2 h3 h => by
    rcases h with h | h
    · exact R1.live n c a h1 h2 h3 h
    · obtain ⟨o, e⟩ := R1.thC a (List.mem_of_getElem? h2)
      rw [h.2] at e; cases e
theorem back_F {w0 w1 w2 : Wd} {H1 H2 : Hp} (x : Ext w0 H1 w2 H2) (h0 : w0.cs = []) {a : Addr} (h : w2.F a) (k : w0.F a → w1.F a) : (backW w1 w2 H1).F a := by
  rcases x.F' a h with q | q | q
  · exact .inl (k q)
  · exact .inr ⟨h, q⟩
  · rw [h0] at q; cases q
/-! data with neither list nor dict leans on tuples alone -/
mutual
theorem Dv.noLd {g : Pw} {F F' : Addr → Prop} {H : Hp} (k : ∀ a xs, F a → TupAt H a xs → F' a) : ∀ {v : V} {d : PyData}, Dv g F H v d → noLd d = true → Dv g F' H v d
  | _, _, .non, _ => .non
  | _, _, .bl b, _ => .bl b
  | _, _, .int i, _ => .int i
  | _, _, .str x, _ => .str x
  | _, _, .lst _ _ _, h => by cases h
  | _, _, .tup f r t, h => .tup (k _ _ f r) r (DvA.noLd k t h)
  | _, _, .dK _ _ _, h => by cases h
  | _, _, .dT _ _ _, h => by cases h
theorem DvA.noLd {g : Pw} {F F' : Addr → Prop} {H : Hp} (k : ∀ a xs, F a → TupAt H a xs → F' a) : ∀ {v : List V} {d : List PyData}, DvA g F H v d → noLd.noLdA d = true → DvA g F' H v d
  | _, _, .nil, _ => .nil
  | _, _, .cons r t, h => by
    have h : (Mn.noLd _ && noLd.noLdA _) = true := h
    rw [Bool.and_eq_true] at h
    exact .cons (Dv.noLd k r h.1) (DvA.noLd k t h.2)
end
/-- what is lent to a call -/
def lent (w : Wd) (H : Hp) (vs : List V) (b : Bool) : Wd := ⟨fun x => w.F x ∨ (b = false ∧ V.ref x ∈ vs ∧ ∃ o, H x = some o ∧ (∀ ob xs, o ≠ .frz ob (.tup xs)) ∧ ∀ fs, o ≠ .xd fs), []⟩
theorem views_len {mh : MH} : ∀ {rs : List RV} {ds : List PyData}, views mh rs = some ds → rs.length = ds.length
  | [], ds, e => by cases (Option.some.inj (show some [] = some ds from e)); rfl
  | r :: rs, ds, e => by
    unfold views at e
    split at e
    · rename_i d ds' e1 e2
      cases e
      rw [List.length_cons, List.length_cons, views_len e2]
    · cases e
theorem lent_ok {T : Stat} {w : Wd} {mh : MH} {H : Hp} {b : Bool} (R : RelH T w mh H) (all : List V) : ∀ {vs : List V} {rs : List RV} {ds : List PyData}, RvsOk T w H vs rs → views mh rs = some ds → (b = true → rs.all RV.isDat = true) → (∀ v ∈ vs, v ∈ all) → RvsOk T (lent w H all b) H vs (ds.map .dat)
  | _, _, _, .nil, e, _, _ => by cases (Option.some.inj (show some [] = some _ from e)); exact .nil
  | _, _, ds, .cons (v := v) (r := r) (rs := rs) h t, e, hb, ha => by
    unfold views at e
    split at e
    · rename_i d ds' e1 e2
      cases e
      refine .cons ?_ (lent_ok R all t e2 (fun q => by have z := hb q; rw [List.all_cons, Bool.and_eq_true] at z; exact z.2) fun v hv => ha v (List.mem_cons_of_mem _ hv))
      show Dv T.g (lent w H all b).F H v d
      have mono : ∀ {u : V} {c : PyData}, Dv T.g w.F H u c → Dv T.g (lent w H all b).F H u c := fun q => q.mono (fun _ z => .inl z) fun _ _ _ z => z
      have q := h.view R e1
      rcases q with q | ⟨a, xs, es, rfl, h1, h2, rfl⟩ | ⟨a, kvs, ps, rfl, h1, h2, rfl⟩ | ⟨a, kvs, ps, rfl, h1, h2, rfl⟩
      · exact mono q
      all_goals
        cases b with
        | true =>
          have z := hb rfl
          rw [List.all_cons, Bool.and_eq_true] at z
          cases r with
          | dat d' => cases (Option.some.inj e1); exact mono h
          | _ => cases z.1
        | false =>
          have hl : (lent w H all false).F a := by
            refine .inr ⟨rfl, ha _ List.mem_cons_self, ?_⟩
            rcases h1 with h1 | ⟨o, h1⟩
            · exact ⟨_, h1, (fun ob xs z => nomatch z), (fun fs z => nomatch z)⟩
            · exact ⟨_, h1, (fun ob xs z => nomatch z), (fun fs z => nomatch z)⟩
          first
          | exact .lst hl h1 (h2.mono (fun _ z => .inl z) fun _ _ _ z => z)
          | exact .dK hl h1 (h2.mono (fun _ z => .inl z) fun _ _ _ z => z)
          | exact .dT hl h1 (h2.mono (fun _ z => .inl z) fun _ _ _ z => z)
    · cases e
theorem lent_rel {T : Stat} {w : Wd} {mh : MH} {H : Hp} {b : Bool} {vs : List V} (R : RelH T w mh H) : RelH T (lent w H vs b) [] H where
  len := rfl
  nd := List.nodup_nil
  thF := fun a h => by
    rcases h with h | ⟨_, _, o, e, _⟩
    · exact R.thF a h
    · exact ⟨o, e⟩
  thC := fun a h => by cases h
  ok := fun n c a h => by simp at h
  live := fun n c a h => by simp at h
theorem pure_og {T : Stat} {W : XK} {w1 : Wd} {H1 : Hp} {mh : MH} {b : Bool} {vs : List V} {r : Out RV} {Q : VK} {rel : Wd → Hp → V → RV → Prop} (R1 : RelH T w1 mh H1) (o : OG T (RvN T H1) W w1 H1 (pureCall b r mh) Q) :
    OG T (RvN T H1) W (lent w1 H1 vs b) H1 r Q := by
  -- what is frozen behind the call is frozen for the caller, or lent
  have kF : ∀ {w2 : Wd} {H2 : Hp}, Ext (lent w1 H1 vs b) H1 w2 H2 → b = true → ∀ a, w2.F a → (backW w1 w2 H1).F a := fun x hb a h => back_F x rfl h fun q => by
    rcases q with q | ⟨q, _⟩
    · exact q
    · rw [hb] at q; cases q
  have kT : ∀ {w2 : Wd} {H2 : Hp}, Ext (lent w1 H1 vs b) H1 w2 H2 → ∀ a xs, w2.F a → TupAt H2 a xs → (backW w1 w2 H1).F a := fun x a xs h t => back_F x rfl h fun q => by
    rcases q with q | ⟨_, _, o, e, ne, _⟩
    · exact q
    · obtain ⟨ob, e2, _⟩ := t
      have := x.there e (by simp [lent])
      rw [this] at e2
      cases e2
      exact absurd rfl (ne _ _)
  have dv : ∀ {w2 : Wd} {H2 : Hp} {v : V} {d : PyData}, Ext (lent w1 H1 vs b) H1 w2 H2 → (b || noLd d) = true → Dv T.g w2.F H2 v d → Dv T.g (backW w1 w2 H1).F H2 v d := fun {w2 H2 v d} x hb q => by
    cases hB : b with
    | true => exact q.mono (kF x hB) fun _ _ _ z => z
    | false => rw [hB, Bool.false_or] at hb; exact q.noLd (kT x) hb
  cases r with
  | ok rv mh' =>
    cases rv with
    | dat d =>
      intro w2 v H2 x R2 q
      have o : OG T (RvN T H1) W w1 H1 (if (b || noLd d) = true then .ok (.dat d) mh else .stuck) Q := o
      split at o
      · rename_i hb
        exact o (backW w1 w2 H1) v H2 (back_ext x rfl) (back_rel x rfl R1 R2) ⟨dv x hb q.1, fun z => by cases z⟩
      · exact o.elim
    | olst ds =>
      intro w2 v H2 x R2 q
      have o : OG T (RvN T H1) W w1 H1 (if (b || noLd.noLdA ds) = true then .ok (.olst ds) mh else .stuck) Q := o
      split at o
      · rename_i hb
        obtain ⟨⟨a, xs, rfl, h1, h2, h3, h4⟩, hn⟩ := q
        have hn := hn rfl a rfl
        refine o (backW w1 w2 H1) _ H2 (back_ext x rfl) (back_rel x rfl R1 R2) ⟨⟨a, xs, rfl, h1, ?_, fun z => ?_, fun z => ?_⟩, fun _ a' e => by cases e; exact hn⟩
        · cases hB : b with
          | true => exact h2.mono (kF x hB) fun _ _ _ z => z
          | false => rw [hB, Bool.false_or] at hb; exact h2.noLd (kT x) hb
        · obtain ⟨o', e⟩ := R1.thC a z
          rw [hn] at e; cases e
        · rcases z with z | z
          · obtain ⟨o', e⟩ := R1.thF a z
            rw [hn] at e; cases e
          · exact h4 z.1
      · exact o.elim
    | odct ps =>
      intro w2 v H2 x R2 q
      have o : OG T (RvN T H1) W w1 H1 (if b = true then .ok (.odct ps) mh else .stuck) Q := o
      split at o
      · rename_i hb
        obtain ⟨⟨a, rfl, h1, h3, h4⟩, hn⟩ := q
        have hn := hn rfl a rfl
        refine o (backW w1 w2 H1) _ H2 (back_ext x rfl) (back_rel x rfl R1 R2) ⟨⟨a, rfl, ?_, fun z => ?_, fun z => ?_⟩, fun _ a' e => by cases e; exact hn⟩
        · rcases h1 with ⟨kvs, h1, h2⟩ | ⟨kvs, h1, h2⟩
          · exact .inl ⟨kvs, h1, h2.mono (kF x hb) fun _ _ _ z => z⟩
          · exact .inr ⟨kvs, h1, h2.mono (kF x hb) fun _ _ _ z => z⟩
        · obtain ⟨o', e⟩ := R1.thC a z
          rw [hn] at e; cases e
        · rcases z with z | z
          · obtain ⟨o', e⟩ := R1.thF a z
            rw [hn] at e; cases e
          · exact h4 z.1
      · exact o.elim
    | ref n => exact o.elim
    | xcp c a => exact o.elim
  | exc y mh' =>
    intro w2 cls d H2 x R2 q
    have o : OG T (RvN T H1) W w1 H1 (if (b || (match y.arg with | some d => noLd d | none => true)) = true then .exc y mh else .stuck) Q := o
    obtain ⟨c, ar⟩ := y
    cases ar with
    | none =>
      have o : OG T (RvN T H1) W w1 H1 (if (b || true) = true then .exc ⟨c, none⟩ mh else .stuck) Q := o
      rw [Bool.or_true, if_pos rfl] at o
      exact o (backW w1 w2 H1) cls d H2 (back_ext x rfl) (back_rel x rfl R1 R2) q
    | some z =>
      have o : OG T (RvN T H1) W w1 H1 (if (b || noLd z) = true then .exc ⟨c, some z⟩ mh else .stuck) Q := o
      split at o
      · rename_i hb
        obtain ⟨h1, p, v, e, f, hp, r⟩ := q
        refine o (backW w1 w2 H1) cls d H2 (back_ext x rfl) (back_rel x rfl R1 R2) ⟨h1, p, v, e, ?_, hp, dv x hb r⟩
        refine back_F x rfl f fun q => ?_
        rcases q with q | ⟨_, hm, o', e', _, nx⟩
        · exact q
        · have := x.there e' (by simp [lent])
          rw [this] at hp
          cases hp
          exact absurd rfl (nx _)
      · exact o.elim
  | stuck => exact o.elim
theorem me_pcall {f n : Nat} {es : Es} {x : Str} {e : Expr} {xs : List Expr} {p pos : Pos} (F : FnAt X J.T x n (C.call f)) (tk : L2N.Takes X J.W) (hg : Gl X x) (ha : PA X (e :: xs) (TVm J (evVs C es))) (hp : (e :: xs).all plainX = true) :
    PE X (.Call (.Name x p) (e :: xs) [] pos) (TEc J (evE C (.pcall f es))) := by
  obtain ⟨k, a, fd, ps, F1, hr, hm, hk, hb⟩ := F.fn
  have hp' := hp
  rw [List.all_cons, Bool.and_eq_true] at hp'
  refine PE.weak (pe_callSD F1 hr hg hm hk hb .nil (fun σ => L2N.passAt tk σ) ha F.db (star_of hp'.1) (star_any hp'.2)) fun σ H Q ⟨w, env, mh, R, o⟩ => ?_
  refine ⟨w, env, mh, R, (OG.bind (rel := RvsOk J.T) o).mono fun vs H1 ⟨w1, rs, mh1, _, x1, R1, r1, o1⟩ => ?_⟩
  split at o1
  · rename_i ds hd
    have hl : (ds.map RV.dat).length = n := by
      by_cases q : (ds.map RV.dat).length = n
      · exact q
      · rw [F.len _ _ q] at o1; exact o1.elim
    rw [List.append_nil]
    have o2 : OG J.T (RvN J.T H1) (fun c d H' => J.W c d σ H') w1 H1 (pureCall (rs.all RV.isDat) (C.call f (ds.map .dat) []) mh1) Q := o1.rel fun w' H' b a x q => ⟨q.1, fun h ad e => x1.old R1 ad (q.2 h ad e)⟩
    exact ⟨lent w1 H1 vs (rs.all RV.isDat), _, [], lent_rel R1, lent_ok R1 vs r1 hd (fun q => q) fun _ h => h, hl, pure_og (rel := RvOk J.T) R1 o2⟩
  · exact o1.elim
end
end Mn
end
section
set_option linter.all false
set_option autoImplicit false
set_option maxRecDepth 100000
/-! Mini: rules for methods, comprehensions, caught errors. -/
namespace Mn
open PySem PySem.Spec PyProof.Rows L2

/-- no call without arguments (super() and its like), by its head -/
def baseX : Expr → Bool
  | .Call _ _ _ _ => false
  | _ => true
theorem base_of {o : Expr} {m : Str} {env : Env} (h : baseX o = true) : attributeBase o m env (eval o env) = eval o env := by cases o <;> first | rfl | cases h
/-- the object's class -/
def TyIs (X : Cx) (T : String) (x : V) (H : Hp) : Prop := ∀ (pins : List (Addr × Obj)) (σ : L2.St) (s : Shared) (v : Value), Inv X pins σ H s → RelV x v → s.TypeIs v T ∧ ∀ a, v = .ref a → ∃ ob, s.heap.get? a = some ob ∧ ob.dict = none
section
variable {X : Cx} {J : Jd} {C : CallF}
theorem pe_bmG {o e : Expr} {es : List Expr} {to : TE} {t : TA} {name : Str} {apos cpos : Pos} {T id : String} {r : V → List V → Hp → VK → Prop} (pa : PlainAttrs T) (slot : Slot T name id) (hty : typeOf (.builtin id) = pure (.type "method_descriptor")) (hm : MtR X id r) (ho : PE X o to) (ha : PA X (e :: es) t)
    (hb : baseX o = true) (hp : (e :: es).all plainX = true) (hl : (e :: es).length < 29) (hline : (apos.endLine == cpos.line) = true) :
    PE X (.Call (.Attribute o name apos) (e :: es) [] cpos) (fun σ H Q => to σ H fun x H1 => TyIs X T x H1 ∧ t σ H1 fun xs H2 => r x xs H2 Q) := by
  refine ⟨fun pins s σ H Q I h => ?_⟩
  have hp' := hp
  rw [List.all_cons, Bool.and_eq_true] at hp'
  have hfew : ((backTo cpos (starEach (e :: es) X.env)).all (fun x => !x.1) && (backToKw cpos (keywordEach [] X.env)).all (fun x => x.1.isSome)
      && decide ((e :: es).length + ([] : List Keyword).length + (if ([] : List Keyword).isEmpty then 0 else 1) < 30)) = true := by
    rw [star_back hp]
    simp only [List.all_map]
    have h1 : ((e :: es).all ((fun x : Bool × Sem Value => !x.1) ∘ fun e => (false, eval e X.env))) = true := List.all_eq_true.mpr fun x _ => rfl
    rw [h1, Bool.true_and]
    show (true && decide ((e :: es).length + 0 + 0 < 30)) = true
    rw [Bool.true_and]
    exact decide_eq_true (by omega)
  refine wpAny_Call_method_late (base_of hb) hfew hline rfl (thn (ho.run pins s σ H _ I h) fun v s1 ⟨x, H1, I1, r1, ty, q1⟩ => ?_)
  obtain ⟨h1, h2⟩ := ty pins σ s1 v I1 r1
  refine ⟨T, id, pa, slot, hty, h1, h2, ?_⟩
  have hA := ha.run cpos pins s1 σ H1 _ I1 q1
  rw [star_of hp'.1] at hA ⊢
  refine Calls.callWith_builtin (by show (false || (backTo cpos (starEach es X.env)).any (·.1)) = false; rw [star_any hp'.2] <;> rfl) (Calls.evalArgs_plain ?_)
  exact thn hA fun us s2 ⟨vs, H2, I2, r2, q2⟩ => hm pins s2 σ H2 x vs v us Q I2 r1 r2 q2

/-! ### d.get(k, e), s.join(xs), xs.pop(i) -/
theorem ty_list {a : Addr} {xs : List V} {H : Hp} (h : Rd H a (.lst xs)) : TyIs X "list" (.ref a) H := fun pins σ s v I r => by
  cases (show v = .ref a from r)
  obtain ⟨z, its, n, rv, e⟩ := h.ok I.hok
  exact ⟨⟨_, e, rfl⟩, fun b q => by cases q; exact ⟨_, e, rfl⟩⟩
theorem ty_str {x : Str} {H : Hp} : TyIs X "str" (.str x) H := fun pins σ s v I r => by
  obtain ⟨t, rfl⟩ := (show ∃ t, v = .str x t from r)
  exact ⟨typeIs_str _ _ _, fun a e => nomatch e⟩
theorem ty_dict {g : Pw} {F : Addr → Prop} {v : V} {ps : List (PyData × PyData)} {H : Hp} (hg : g = ⟨X.prog, X.w⟩) (h : WOk g F H v (.dict ps)) : TyIs X "dict" v H := fun pins σ s u I r => by
  obtain ⟨a, rfl, hh⟩ := WOk.dict h
  cases (show u = .ref a from r)
  rcases hh with ⟨kvs, h1, r1⟩ | ⟨kvs, h1, r1⟩
  · obtain ⟨_, _, vs, _, o, es, ep, h4, h5, _⟩ := dk_rd I.hok h1
    exact ⟨⟨o, h4, h5.1⟩, fun b q => by cases q; exact ⟨o, h4, h5.2.1⟩⟩
  · obtain ⟨_, _, o, es, ep, h4, h5, _⟩ := td_rd hg I h1 r1
    exact ⟨⟨o, h4, h5.1⟩, fun b q => by cases q; exact ⟨o, h4, h5.2.1⟩⟩
def rGet2 (g : Pw) : V → List V → Hp → VK → Prop := fun x xs H Q => ∃ F kvs k y z e, xs = [y, z] ∧ WOk g F H x (.dict kvs) ∧ WOk g F H y k ∧ kindOk kvs k = true ∧ Dv g F H z e ∧ ∀ v, Dv g F H v ((dget kvs k).getD e) → Q v H
theorem mt_get2 {g : Pw} (hg : g = ⟨X.prog, X.w⟩) (hu : X.A.units + 200 < cLine) : MtR X "dict.get" (rGet2 g) := by
  intro pins s σ H x xs v us Q I rx rs h
  obtain ⟨F, kvs, k, y, z, e, rfl, hx, hy, c, hz, q⟩ := h
  obtain ⟨u1, u2, rfl, r1, r2⟩ := vals2 rs
  obtain ⟨a, o, rfl, ge, ho⟩ := dgetE_of hx hy c
  cases (show v = .ref a from rx)
  refine de_get2 hg (by omega) I ge r1 r2 fun w' s' I' rw' => ⟨_, H, I', rw', q _ ?_⟩
  rcases ho with ⟨rfl, h2⟩ | ⟨w2, d', rfl, h2, h3⟩
  · rw [h2]; exact hz
  · rw [h2]; exact h3
theorem DvA.two {g : Pw} {F : Addr → Prop} {H : Hp} {vs : List V} {d e : PyData} (h : DvA g F H vs [d, e]) : ∃ v u, vs = [v, u] ∧ Dv g F H v d ∧ Dv g F H u e := by
  cases h with
  | cons r t =>
    cases t with
    | cons r' t => cases t; exact ⟨_, _, rfl, r, r'⟩
theorem DvA.one {g : Pw} {F : Addr → Prop} {H : Hp} {vs : List V} {d : PyData} (h : DvA g F H vs [d]) : ∃ v, vs = [v] ∧ Dv g F H v d := by
  cases h with
  | cons r t => cases t; exact ⟨_, rfl, r⟩
theorem strs_of {g : Pw} {F : Addr → Prop} {H : Hp} : ∀ {vs : List V} {ds : List PyData} {ys : List Str}, DvA g F H vs ds → strsD ds = some ys → vs = ys.map V.str
  | _, _, ys, .nil, e => by cases (Option.some.inj (show some [] = some ys from e)); rfl
  | _, _, ys, .cons (d := d) (ds := ds) r t, e => by
    unfold strsD at e
    split at e
    · rename_i h; cases h
    · rename_i s r' h
      cases h
      obtain ⟨l, e1, rfl⟩ := Option.map_eq_some_iff.mp e
      rw [strs_of t e1]
      cases r
      rfl
    · cases e
def rMthM (g : Pw) (m : Mth) : V → List V → Hp → VK → Prop := fun x xs H Q => ∃ F d es r, WOk g F H x d ∧ DvA g F H xs es ∧ mthD m d es = some r ∧ ∀ v H', NewD g F H v r H' → Q v H'
def Mth.id : Mth → String
  | .get2 => "dict.get"
  | .join => "str.join"
def Mth.T : Mth → String
  | .get2 => "dict"
  | .join => "str"
def Mth.nm : Mth → Str
  | .get2 => "get"
  | .join => "join"
theorem mt_mth {g : Pw} (hg : g = ⟨X.prog, X.w⟩) (hu : X.A.units + 200 < cLine) (m : Mth) : MtR X m.id (rMthM g m) := by
  intro pins s σ H x xs v us Q I rx rs h
  obtain ⟨F, d, es, r, hx, he, h, q⟩ := h
  have jn : ∀ {z : Str} {a : Addr} {ys : List V} {ds : List PyData}, xs = [.ref a] → x = .str z → (SqL X.K H a ys ∨ SqT X.K H a ys) → DvA g F H ys ds → joinD z ds = some r → m = .join → wpAny (model X.prog X.w) X.A (call (.builtin m.id) (v :: us)) (EP X pins σ Q) X.xe s := fun {z a ys ds} e1 e2 e3 e4 e5 e6 => by
    subst e6
    unfold joinD at e5
    split at e5
    · rename_i ts ht
      split at e5
      · rename_i hb
        cases e5
        have e := strs_of e4 ht
        subst e
        have hb : (ts.map (·.length)).sum + ts.length * z.length ≤ 16777216 := of_decide_eq_true hb
        exact mt_join pins s σ H x xs v us Q I rx rs ⟨z, a, ts, e2, e1, e3, hb, by rw [TL.join_eq]; exact q _ _ (.str _)⟩
      · cases e5
    · cases e5
  unfold mthD at h
  split at h
  · split at h
    · rename_i c
      cases h
      obtain ⟨y, z, rfl, h1, h2⟩ := he.two
      exact mt_get2 hg hu pins s σ H x _ v us Q I rx rs ⟨F, _, _, y, z, _, rfl, hx, .inl h1, c, h2, fun v' n => q _ _ (.same n)⟩
    · cases h
  · obtain ⟨y, rfl, h1⟩ := he.one
    have ex := hx.str
    obtain ⟨a, ys, rfl, h3, h4⟩ := WOk.list (.inl h1)
    exact jn rfl ex (.inl (.inl h3)) h4 h rfl
  · obtain ⟨y, rfl, h1⟩ := he.one
    have ex := hx.str
    obtain ⟨a, ys, rfl, f, h3, h4⟩ := WOk.tuple (.inl h1)
    exact jn rfl ex (.inr h3.sq) h4 h rfl
  · cases h
theorem mthTy_of {m : Mth} {o : Option PyData} (h : mthTy m o = true) : (m = .get2 ∧ ∃ kvs, o = some (.dict kvs)) ∨ (m = .join ∧ ∃ s, o = some (.str s)) := by
  unfold mthTy at h
  split at h
  · exact .inl ⟨rfl, _, rfl⟩
  · exact .inr ⟨rfl, _, rfl⟩
  · cases h
theorem isLstC_of {x : RV} {mh : MH} (h : isLstC x mh = true) : ∃ n xs, x = .ref n ∧ mh[n]? = some (.lst xs) := by
  unfold isLstC at h
  split at h
  · split at h
    · rename_i e
      exact ⟨_, _, rfl, e⟩
    · cases h
  · cases h
theorem me_mth {m : Mth} {o : E} {es : Es} {x e : Expr} {xs : List Expr} {apos cpos : Pos} (hg : J.T.g = ⟨X.prog, X.w⟩) (hu : X.A.units + 200 < cLine) (ho : PE X x (TEm J (evE C o))) (ha : PA X (e :: xs) (TDm J (evEs C es))) (hb : baseX x = true) (hp : (e :: xs).all plainX = true) (hl : (e :: xs).length < 29) (hline : (apos.endLine == cpos.line) = true) :
    PE X (.Call (.Attribute x m.nm apos) (e :: xs) [] cpos) (TEm J (evE C (.mth m o es))) := by
  have pa : PlainAttrs m.T := by cases m; exact PySem.F.plainAttrs_dict; exact PySem.F.plainAttrs_str
  have sl : Slot m.T m.nm m.id := by cases m; exact PySem.F.slot_dict_get; exact PySem.F.slot_str_join
  have ty : typeOf (.builtin m.id) = pure (.type "method_descriptor") := by cases m; exact PySem.F.type_dict_get; exact PySem.F.type_str_join
  refine PE.weak (pe_bmG pa sl ty (mt_mth (g := J.T.g) hg hu m) ho ha hb hp hl hline) fun σ H Q ⟨w, env, mh, R, oo⟩ => ?_
  refine ⟨w, env, mh, R, (OG.bind (rel := RvOk J.T) oo).mono fun v H1 ⟨w1, rv, mh1, _, x1, R1, r1, o1⟩ => ?_⟩
  split at o1
  · rename_i hm
    refine ⟨?_, w1, env, mh1, R.ext x1 R1, (OG.bind (rel := relDs J.T.g) o1).mono fun vs H2 ⟨w2, ds, mh2, _, x2, R2, r2, o2⟩ => ?_⟩
    · rcases mthTy_of hm with ⟨rfl, kvs, ev⟩ | ⟨rfl, z, ev⟩
      · exact ty_dict hg (r1.view R1 ev)
      · have := (r1.view R1 ev).str
        subst this
        exact ty_str
    · split at o2
      · rename_i d hd
        unfold ofD at o2
        split at o2
        · rename_i r hr
          exact ⟨w2.F, d, ds, r, (x2.rv r1).view R2 hd, r2, hr, fun v' H' n => o2.newD R2 n⟩
        · exact o2.elim
      · exact o2.elim
  · exact o1.elim
theorem DvA.eraseI {g : Pw} {F : Addr → Prop} {H : Hp} {vs : List V} {ds : List PyData} (i : Nat) (h : DvA g F H vs ds) : DvA g F H (vs.eraseIdx i) (ds.eraseIdx i) := h.eraseIdx i
theorem me_pop {o : E} {es : Es} {x e : Expr} {apos cpos : Pos} (ho : PE X x (TEm J (evE C o))) (ha : PA X [e] (TDm J (evEs C es))) (hb : baseX x = true) (hp : [e].all plainX = true) (hline : (apos.endLine == cpos.line) = true) :
    PE X (.Call (.Attribute x "pop" apos) [e] [] cpos) (TEm J (evE C (.popA o es))) := by
  refine PE.weak (pe_bmG PySem.F.plainAttrs_list PySem.F.slot_list_pop PySem.F.type_list_pop mt_popAt ho ha hb hp (by simp) hline) fun σ H Q ⟨w, env, mh, R, oo⟩ => ?_
  refine ⟨w, env, mh, R, (OG.bind (rel := RvOk J.T) oo).mono fun v H1 ⟨w1, rv, mh1, _, x1, R1, r1, o1⟩ => ?_⟩
  split at o1
  · rename_i hm
    obtain ⟨n, xs, rfl, hn⟩ := isLstC_of hm
    obtain ⟨a, rfl, hc⟩ := r1
    obtain ⟨vs0, hH, _⟩ := R1.ok n _ a hn hc
    refine ⟨ty_list (.inl hH), w1, env, mh1, R.ext x1 R1, (OG.bind (rel := relDs J.T.g) o1).mono fun us H2 ⟨w2, ds, mh2, _, x2, R2, r2, o2⟩ => ?_⟩
    have hc2 := x2.cell hc
    cases hn2 : mh2[n]? with
    | none => simp only [popC, hn2] at o2; exact o2.elim
    | some cl =>
      cases cl with
      | lst ys =>
        match ds, r2, o2 with
        | [.int i], r2, o2 =>
          simp only [popC, hn2] at o2
          split at o2
          · rename_i k hk
            split at o2
            · rename_i d hd
              obtain ⟨vs, hH2, dv⟩ := R2.ok n _ a hn2 hc2
              have hF := R2.live n _ a hn2 hc2 rfl
              obtain ⟨y, rfl, h1⟩ := DvA.one r2
              cases h1
              obtain ⟨z, hz, dz⟩ := dv.get hd
              split at hk
              · rename_i hs
                have hs := of_decide_eq_true hs
                have hk' : L2.ixN ys.length i = some k := hk
                obtain ⟨e1, e2, e3, e4⟩ := ixN_seq hk'
                have hl := dv.length
                refine ⟨a, vs, i, k, z, rfl, rfl, hH2, by omega, by omega, by rw [hl]; exact e1, hz, ?_⟩
                have new : CellOk J.T w2 (upd H2 a (.lst (vs.eraseIdx k))) a (.lst (ys.eraseIdx k)) := ⟨_, upd_same, (dv.eraseIdx k).over hF⟩
                exact o2 w2 z _ (Ext.write (List.mem_of_getElem? hc2) hF) (R2.write hc2 hF new) (dz.over hF)
              · cases hk
            · exact o2.elim
          · exact o2.elim
        | [], r2, o2 => simp only [popC, hn2] at o2; exact o2.elim
        | _ :: _ :: _, r2, o2 => simp only [popC, hn2] at o2; exact o2.elim
        | [.none], r2, o2 => simp only [popC, hn2] at o2; exact o2.elim
        | [.bool _], r2, o2 => simp only [popC, hn2] at o2; exact o2.elim
        | [.str _], r2, o2 => simp only [popC, hn2] at o2; exact o2.elim
        | [.list _], r2, o2 => simp only [popC, hn2] at o2; exact o2.elim
        | [.tuple _], r2, o2 => simp only [popC, hn2] at o2; exact o2.elim
        | [.dict _], r2, o2 => simp only [popC, hn2] at o2; exact o2.elim
      | _ => simp only [popC, hn2] at o2; exact o2.elim
  · exact o1.elim

/-! ### comprehensions -/
theorem OG.noexcAt {T : Stat} {α β γ δ : Type} {rel : Wd → Hp → β → α → Prop} {rel' : Wd → Hp → δ → γ → Prop} {W : XK} {w w0 : Wd} {H H0 : Hp} {o : Out α} {k : α → MH → Out γ} {Q : δ → Hp → Prop} (h : OG T rel' W w0 H0 (noExc (o.bind k)) Q) :
    OG T rel (fun _ _ _ => False) w H o (fun b H1 => ∃ w1 a mh1, Ext w H w1 H1 ∧ RelH T w1 mh1 H1 ∧ rel w1 H1 b a ∧ OG T rel' W w0 H0 (noExc (k a mh1)) Q) := by
  cases o with
  | ok a mh => exact fun w' b H' x r q => ⟨w', a, mh, x, r, q, h⟩
  | exc x mh => exact h.elim
  | stuck => exact h.elim
theorem Out.bind_assoc {α β γ : Type} (o : Out α) (k : α → MH → Out β) (l : β → MH → Out γ) : (o.bind k).bind l = o.bind fun a mh => (k a mh).bind l := by cases o <;> rfl
theorem noExc_ite {α : Type} {p : Prop} [Decidable p] {a b : Out α} : noExc (if p then a else b) = if p then noExc a else noExc b := by split <;> rfl
theorem wipe_get {vs : List Nat} {σ : L2.St} {j : Nat} : (L2.wipe σ vs)[j]? = if j ∈ vs ∧ j < σ.length then some none else σ[j]? := by
  induction vs with
  | nil => simp [L2.wipe]
  | cons v vs ih =>
    show ((L2.wipe σ vs).set v none)[j]? = _
    by_cases e : v = j
    · subst e
      by_cases hl : v < σ.length
      · rw [List.getElem?_set_self (by rw [L2.wipe_length]; exact hl), if_pos ⟨List.mem_cons_self, hl⟩]
      · rw [if_neg fun z => hl z.2, List.getElem?_eq_none (by rw [List.length_set, L2.wipe_length]; omega), List.getElem?_eq_none (by omega)]
    · rw [List.getElem?_set_ne e, ih]
      by_cases hj : j ∈ vs ∧ j < σ.length
      · rw [if_pos hj, if_pos ⟨List.mem_cons_of_mem _ hj.1, hj.2⟩]
      · rw [if_neg hj, if_neg fun z => hj ⟨(List.mem_cons.mp z.1).resolve_left fun q => e q.symm, z.2⟩]
theorem wipe_near {vs us : List Nat} {σ σ' : L2.St} (n : Near us σ σ') (h : ∀ j ∈ us, j ∈ vs) : L2.wipe σ' vs = L2.wipe σ vs := by
  apply List.ext_getElem?
  intro j
  rw [wipe_get, wipe_get, n.1]
  by_cases hj : j ∈ vs ∧ j < σ.length
  · rw [if_pos hj, if_pos hj]
  · rw [if_neg hj, if_neg hj]
    by_cases hu : j ∈ us
    · have hl : ¬ j < σ.length := fun z => hj ⟨h j hu, z⟩
      rw [List.getElem?_eq_none (by rw [n.1]; omega), List.getElem?_eq_none (by omega)]
    · exact n.2 j hu
theorem wipe_wipe {vs : List Nat} {σ : L2.St} : L2.wipe (L2.wipe σ vs) vs = L2.wipe σ vs := by
  apply List.ext_getElem?
  intro j
  rw [wipe_get, L2.wipe_length, wipe_get]
  split
  · rfl
  · rfl
/-- nothing is let out -/
abbrev Jd.nox (J : Jd) : Jd := { J with W := fun _ _ _ _ => False }
def cmpTurn (C : CallF) (elt : E) (tg : Tg) (c : E) (own : List Nat) (env : MEnv) : PyData → MH → Out (Option PyData) := fun x mh => match bindT tg x (wipeM env own) with
  | some env' => ((evP C c).2 env' mh).bind fun t mh => (match t with
    | true => ((evP C elt).1 env' mh).bind fun r mh => (match r with
      | .dat d => .ok (some d) mh
      | _ => .stuck)
    | false => .ok none mh)
  | none => .stuck
theorem mf_comp {elt c : E} {tg : Tg} {it : Mn.It} {ownS : List (Str × Nat)} {xe xt : Expr} {ifs : List Expr} {scope : Scope} (hsl : ∀ j ∈ tg.slots, j ∈ ownS.map (·.2))
    (hg : ∀ (s : Shared) (H : Hp) (Ca : Addr) (cl : List (Str × Addr)) (fp : List Addr), PG (X.blk s H scope (compEnvC scope cl Ca X.env) fp) xt (TGm J.nox tg))
    (ht : ∀ (s : Shared) (H : Hp) (Ca : Addr) (cl : List (Str × Addr)) (fp : List Addr), PTs (X.blk s H scope (compEnvC scope cl Ca X.env) fp) ifs (TTm J.nox (evT C c)))
    (he : ∀ (s : Shared) (H : Hp) (Ca : Addr) (cl : List (Str × Addr)) (fp : List Addr), PE (X.blk s H scope (compEnvC scope cl Ca X.env) fp) xe (TEm J.nox (evE C elt))) :
    (∀ σ H Q, TEf J (evE C (.comp elt tg it c (ownS.map (·.2)))) σ H Q → tLc (TIm J Ext tg (evIt C it)) (TGm J.nox tg) (TTm J.nox (evT C c)) (TEm J.nox (evE C elt)) (ownS.map (·.2)) σ H Q) := by
  intro σ H Q ⟨w, env, mh, R, o⟩
  generalize hown : ownS.map (·.2) = own at *
  refine ⟨w, env, mh, R, (OG.bind (rel := WalksR Ext tg J.T.g) o).mono fun I H1 ⟨w1, ds, mh1, _, x1, R1, wk, o1⟩ => ?_⟩
  intro D hD
  split at o1
  · rename_i hbig
    have o1 : OG J.T (relF J.T H) (fun c d H' => J.W c d σ H') w1 H1 (noExc ((compL (cmpTurn C elt tg c own env) ds mh1 []).bind fun ds mh => .ok (.dat (.list ds)) mh)) Q := o1
    have nF : ¬ w1.F D := fun z => by obtain ⟨o, e⟩ := R1.thF D z; rw [hD] at e; cases e
    have nC : D ∉ w1.cs := fun z => by obtain ⟨o, e⟩ := R1.thC D z; rw [hD] at e; cases e
    refine ⟨fun i m Hc => m = ds.length - i ∧ i ≤ ds.length ∧ ∃ wc mhc acc accD, Ext w1 H1 wc Hc ∧ RelH J.T wc mhc Hc ∧ Hc D = some (.lst acc) ∧ DvA J.T.g wc.F Hc acc accD ∧ acc.length ≤ i ∧ D ∉ wc.cs ∧ ¬ wc.F D ∧
      OG J.T (relF J.T H) (fun c d H' => J.W c d σ H') w1 H1 (noExc ((compL (cmpTurn C elt tg c own env) (ds.drop i) mhc accD).bind fun ds mh => .ok (.dat (.list ds)) mh)) Q,
      ⟨_, rfl, Nat.zero_le _, w1, mh1, [], [], Ext.over .refl hD, R1.over nC nF, upd_same, .nil, Nat.le_refl _, nC, nF, by simpa using o1⟩, ?_⟩
    intro i m Hc ⟨hm, hil, wc, mhc, acc, accD, xc, Rc, hDc, da, hal, hnc, hnf, oc⟩
    have wkc := wk wc Hc xc
    by_cases hlt : i < ds.length
    · refine .inr ⟨wkc.1 i hlt, fun Hn => ∃ wn mhn accn accDn, Ext w1 H1 wn Hn ∧ RelH J.T wn mhn Hn ∧ Hn D = some (.lst accn) ∧ DvA J.T.g wn.F Hn accn accDn ∧ accn.length ≤ i + 1 ∧ D ∉ wn.cs ∧ ¬ wn.F D ∧
        OG J.T (relF J.T H) (fun c d H' => J.W c d σ H') w1 H1 (noExc ((compL (cmpTurn C elt tg c own env) (ds.drop (i + 1)) mhn accDn).bind fun ds mh => .ok (.dat (.list ds)) mh)) Q,
        fun Hn hN' => ⟨ds.length - (i + 1), by omega, rfl, by omega, hN'⟩, ?_⟩
      intro x Hy hy
      obtain ⟨d, hd, bd, hH⟩ := wkc.2.2 i x Hy hy hlt
      have hdrop : ds.drop i = d :: ds.drop (i + 1) := by
        rw [List.drop_eq_getElem_cons hlt]
        rw [List.getElem?_eq_getElem hlt] at hd
        cases hd; rfl
      rw [hdrop] at oc
      have oc : OG J.T (relF J.T H) (fun c d H' => J.W c d σ H') w1 H1 (noExc ((((cmpTurn C elt tg c own env) d mhc).bind fun r mh' => match r with
        | some d => compL (cmpTurn C elt tg c own env) (ds.drop (i + 1)) mh' (accD ++ [d])
        | none => compL (cmpTurn C elt tg c own env) (ds.drop (i + 1)) mh' accD).bind fun ds mh => .ok (.dat (.list ds)) mh)) Q := oc
      rw [Out.bind_assoc] at oc
      have xy : Ext wc Hc wc Hy := by
        rcases hH with rfl | ⟨p, ob, hp, rfl⟩
        · exact .refl
        · exact Ext.lay hp
      have Ry : RelH J.T wc mhc Hy := by
        rcases hH with rfl | ⟨p, ob, hp, rfl⟩
        · exact Rc
        · exact Rc.lay hp
      have Rw := (R.ext (x1.trans (xc.trans xy)) Ry).wipe (vs := own)
      unfold cmpTurn at oc
      cases hb : bindT tg d (wipeM env own) with
      | none => rw [hb] at oc; exact oc.elim
      | some env' =>
        rw [hb] at oc
        have oc := oc
        rw [Out.bind_assoc] at oc
        refine ⟨wc, wipeM env own, d, env', mhc, Rw, bd, hb, fun σ2 R2 n2 => ⟨?_, ?_⟩⟩
        · rw [wipe_near n2 hsl, wipe_wipe]
        · refine ⟨wc, env', mhc, R2, (OG.noexcAt (rel := relB) (w := wc) (H := Hy) oc).mono fun b H3 ⟨w3, b', mh3, x3, R3, r3, o3⟩ => ?_⟩
          cases (show b = b' from r3)
          have tail : ∀ {w4 : Wd} {H4 : Hp}, Ext w3 H3 w4 H4 → Ext w1 H1 w4 H4 ∧ H4 D = some (.lst acc) ∧ DvA J.T.g w4.F H4 acc accD ∧ D ∉ w4.cs ∧ ¬ w4.F D := fun {w4 H4} x4 => by
            have xx := xy.trans (x3.trans x4)
            exact ⟨xc.trans xx, xx.there hDc hnc, xx.dvA da, xx.nc hDc hnc, xx.nF hDc hnc hnf⟩
          cases b with
          | true =>
            rw [if_pos rfl]
            have o3 : OG J.T (relF J.T H) (fun c d H' => J.W c d σ H') w1 H1 (noExc ((((evP C elt).1 env' mh3).bind fun r mh => (match r with
              | .dat d => .ok (some d) mh
              | _ => .stuck)).bind fun r mh' => (match r with
              | some d => compL (cmpTurn C elt tg c own env) (ds.drop (i + 1)) mh' (accD ++ [d])
              | none => compL (cmpTurn C elt tg c own env) (ds.drop (i + 1)) mh' accD).bind fun ds mh => .ok (.dat (.list ds)) mh)) Q := o3
            rw [Out.bind_assoc] at o3
            refine ⟨w3, env', mh3, R2.ext x3 R3, (OG.noexcAt (rel := RvOk J.T) (w := w3) (H := H3) o3).mono fun y H4 ⟨w4, rv, mh4, x4, R4, r4, o4⟩ => ?_⟩
            obtain ⟨t1, t2, t3, t4, t5⟩ := tail x4
            cases rv with
            | dat d' =>
              have hb24 : ds.length ≤ sizeLine := big_le hbig
              refine ⟨acc, t2, by omega, w4, mh4, acc ++ [y], accD ++ [d'], Ext.over t1 hD, R4.over t4 t5, upd_same, (t3.append (.cons r4 .nil)).over t5, by simp; omega, t4, t5, o4⟩
            | ref n => exact o4.elim
            | olst ds => exact o4.elim
            | odct ps => exact o4.elim
            | xcp c a => exact o4.elim
          | false =>
            rw [if_neg (by simp)]
            obtain ⟨t1, t2, t3, t4, t5⟩ := tail .refl
            exact ⟨w3, mh3, acc, accD, t1, R3, t2, t3, by omega, t4, t5, o3⟩
    · have hie : i = ds.length := by omega
      subst hie
      refine .inl ⟨wkc.2.1, ?_⟩
      rw [List.drop_length] at oc
      have hD0 := x1.old R1 D hD
      exact oc wc (.ref D) Hc xc Rc ⟨D, _, rfl, rfl, hD0, hnc, hnf, acc, hDc, da⟩
  · exact o1.elim
end
end Mn
end
section
set_option linter.all false
set_option autoImplicit false
set_option maxRecDepth 100000
/-! Mini: dict comprehensions. -/
namespace Mn
open PySem PySem.Spec PyProof.Rows L2
section
variable {X : Cx} {J : Jd} {C : CallF}
/-- name = {..} on one line, the name a local -/
theorem ps_setDc {i : Nat} {y : Str} {py : Pos} {kx vx tg iter : Expr} {ifs : List Expr} {scope : Scope} {own : List (Str × Nat)} {pos spos : Pos} {wi : TI} {g : TG} {tt : TT} {tk tv : TE} (hc : X.calm = true) (hN : X.N.Nodup) (hy : X.N[i]? = some y) (hyl : X.env.scope.names.lookup y = some .local)
    (hsw : swapsWith (.DictComp kx vx [⟨tg, iter, ifs, 0⟩] scope pos) (some (.Name y py)) spos.line X.env = pure true) (hi : PI X tg iter wi) (ok : BlkOk X.N X.env.scope scope own)
    (hg : ∀ (s : Shared) (H : Hp) (C : Addr) (cl : List (Str × Addr)) (fp : List Addr), PG (X.blk s H scope (compEnvC scope cl C X.env) fp) tg g) (ht : ∀ (s : Shared) (H : Hp) (C : Addr) (cl : List (Str × Addr)) (fp : List Addr), PTs (X.blk s H scope (compEnvC scope cl C X.env) fp) ifs tt)
    (hk : ∀ (s : Shared) (H : Hp) (C : Addr) (cl : List (Str × Addr)) (fp : List Addr), PE (X.blk s H scope (compEnvC scope cl C X.env) fp) kx tk)
    (he : ∀ (s : Shared) (H : Hp) (C : Addr) (cl : List (Str × Addr)) (fp : List Addr), PE (X.blk s H scope (compEnvC scope cl C X.env) fp) vx tv) (hs : ∀ x, foldedSetIterable iter X.env x = pure x) :
    PS X (.Assign [.Name y py] (.DictComp kx vx [⟨tg, iter, ifs, 0⟩] scope pos) spos) (tAsg (tDc wi g tt tk tv (own.map (·.2))) (gName i)) := by
  refine ⟨fun pins s σ H D I h => ?_⟩
  rw [exec_Assign_Name_used _ _ _ _ hsw]
  refine wpAny_bind (wpAny_standAt (wpAny_bind ?_))
  show wpAny _ X.A (do let _ ← comprehension (.DictComp kx vx [⟨tg, iter, ifs, 0⟩] scope pos) scope X.env (firstIterPos [⟨tg, iter, ifs, 0⟩] pos) newDict false (eval iter X.env) (some (assign (.Name y py) X.env))) _ _ s
  have h : tDc wi g tt tk tv (own.map (·.2)) σ H (fun x H1 => gName i x σ H1 D.nx) := h
  refine wpAny_bind (thn (dc_core (Qf := fun _ s' => SP X pins D .next s') hc hN I hi ok hg ht hk he hs h fun L C s' m H' I' q hn f => ?_) fun _ s' hq => wpAny_pure (wpAny_pure hq))
  show wpAny _ _ (assign (.Name y py) X.env (.ref L)) _ _ _
  refine wpAny_assign_Name (store_ok2 (v := V.ref L) I' hN hy (.inl hyl) rfl (fun s2 I2 ⟨a, sb, ha⟩ => ?_) (.inr hyl))
  obtain ⟨f0, f1, f2, f3, f4, f5⟩ := f
  have haC : C ≠ a := by
    rcases ha with z | z
    · rw [z]; exact f1
    · exact fun e => f4 y a z e.symm
  refine ⟨m, hn.sameBut sb haC, fun h3 sb3 => ?_⟩
  exact ⟨_, H', I2.turned (t' := s2.toks) (fun b o hb e => (sb3.2 b hb).trans e) f0 f1 f3 f4 f5, q⟩
def dcmpTurn (C : CallF) (k v : E) (tg : Tg) (c : E) (own : List Nat) (env : MEnv) : PyData → MH → Out (Option (PyData × PyData)) := fun x mh => match bindT tg x (wipeM env own) with
  | some env' => ((evP C c).2 env' mh).bind fun t mh => (match t with
    | true => ((evP C k).1 env' mh).bind fun r mh => (match r with
      | .dat d => ((evP C v).1 env' mh).bind fun q mh => (match q with
        | .dat e => .ok (some (d, e)) mh
        | _ => .stuck)
      | _ => .stuck)
    | false => .ok none mh)
  | none => .stuck
theorem mf_dcomp {ek ev c : E} {tg : Tg} {it : Mn.It} {ownS : List (Str × Nat)} {xk xv xt xi : Expr} {ifs : List Expr} {scope : Scope} {pos : Pos} (hcalm : X.calm = true) (hN : X.N.Nodup)
    (hi : PI X xt xi (TIm J Ext tg (evIt C it))) (ok : BlkOk X.N X.env.scope scope ownS) (hs : plainX xi = true) (hsl : ∀ j ∈ tg.slots, j ∈ ownS.map (·.2))
    (hg : ∀ (s : Shared) (H : Hp) (Ca : Addr) (cl : List (Str × Addr)) (fp : List Addr), PG (X.blk s H scope (compEnvC scope cl Ca X.env) fp) xt (TGm J.nox tg))
    (ht : ∀ (s : Shared) (H : Hp) (Ca : Addr) (cl : List (Str × Addr)) (fp : List Addr), PTs (X.blk s H scope (compEnvC scope cl Ca X.env) fp) ifs (TTm J.nox (evT C c)))
    (hk : ∀ (s : Shared) (H : Hp) (Ca : Addr) (cl : List (Str × Addr)) (fp : List Addr), PE (X.blk s H scope (compEnvC scope cl Ca X.env) fp) xk (TEm J.nox (evE C ek)))
    (he : ∀ (s : Shared) (H : Hp) (Ca : Addr) (cl : List (Str × Addr)) (fp : List Addr), PE (X.blk s H scope (compEnvC scope cl Ca X.env) fp) xv (TEm J.nox (evE C ev))) :
    (∀ σ H Q, TEf J (evE C (.dcomp ek ev tg it c (ownS.map (·.2)))) σ H Q → tDc (TIm J Ext tg (evIt C it)) (TGm J.nox tg) (TTm J.nox (evT C c)) (TEm J.nox (evE C ek)) (TEm J.nox (evE C ev)) (ownS.map (·.2)) σ H Q) := by
  intro σ H Q ⟨w, env, mh, R, o⟩
  generalize hown : ownS.map (·.2) = own at *
  refine ⟨w, env, mh, R, (OG.bind (rel := WalksR Ext tg J.T.g) o).mono fun I H1 ⟨w1, ds, mh1, _, x1, R1, wk, o1⟩ => ?_⟩
  intro D hD
  split at o1
  · rename_i hbig
    have o1 : OG J.T (relF J.T H) (fun c d H' => J.W c d σ H') w1 H1 (noExc ((dcmpL (dcmpTurn C ek ev tg c own env) ds mh1 []).bind fun kvs mh => .ok (.dat (.dict kvs)) mh)) Q := o1
    have nF : ¬ w1.F D := fun z => by obtain ⟨o, e⟩ := R1.thF D z; rw [hD] at e; cases e
    have nC : D ∉ w1.cs := fun z => by obtain ⟨o, e⟩ := R1.thC D z; rw [hD] at e; cases e
    refine ⟨fun i m Hc => m = ds.length - i ∧ i ≤ ds.length ∧ ∃ wc mhc acc accD, Ext w1 H1 wc Hc ∧ RelH J.T wc mhc Hc ∧ Hc D = some (.dK acc) ∧ DvK J.T.g wc.F Hc acc accD ∧ acc.length ≤ i ∧ D ∉ wc.cs ∧ ¬ wc.F D ∧
      OG J.T (relF J.T H) (fun c d H' => J.W c d σ H') w1 H1 (noExc ((dcmpL (dcmpTurn C ek ev tg c own env) (ds.drop i) mhc accD).bind fun kvs mh => .ok (.dat (.dict kvs)) mh)) Q,
      ⟨_, rfl, Nat.zero_le _, w1, mh1, [], [], Ext.over .refl hD, R1.over nC nF, upd_same, .nil, Nat.le_refl _, nC, nF, by simpa using o1⟩, ?_⟩
    intro i m Hc ⟨hm, hil, wc, mhc, acc, accD, xc, Rc, hDc, da, hal, hnc, hnf, oc⟩
    have wkc := wk wc Hc xc
    by_cases hlt : i < ds.length
    · refine .inr ⟨wkc.1 i hlt, fun Hn => ∃ wn mhn accn accDn, Ext w1 H1 wn Hn ∧ RelH J.T wn mhn Hn ∧ Hn D = some (.dK accn) ∧ DvK J.T.g wn.F Hn accn accDn ∧ accn.length ≤ i + 1 ∧ D ∉ wn.cs ∧ ¬ wn.F D ∧
        OG J.T (relF J.T H) (fun c d H' => J.W c d σ H') w1 H1 (noExc ((dcmpL (dcmpTurn C ek ev tg c own env) (ds.drop (i + 1)) mhn accDn).bind fun kvs mh => .ok (.dat (.dict kvs)) mh)) Q,
        fun Hn hN' => ⟨ds.length - (i + 1), by omega, rfl, by omega, hN'⟩, ?_⟩
      intro x Hy hy
      obtain ⟨d, hd, bd, hH⟩ := wkc.2.2 i x Hy hy hlt
      have hdrop : ds.drop i = d :: ds.drop (i + 1) := by
        rw [List.drop_eq_getElem_cons hlt]
        rw [List.getElem?_eq_getElem hlt] at hd
        cases hd; rfl
      rw [hdrop] at oc
      have oc : OG J.T (relF J.T H) (fun c d H' => J.W c d σ H') w1 H1 (noExc ((((dcmpTurn C ek ev tg c own env) d mhc).bind fun r mh' => match r with
        | some p => if isKey1 p.1 then dcmpL (dcmpTurn C ek ev tg c own env) (ds.drop (i + 1)) mh' (dput accD p.1 p.2) else .stuck
        | none => dcmpL (dcmpTurn C ek ev tg c own env) (ds.drop (i + 1)) mh' accD).bind fun kvs mh => .ok (.dat (.dict kvs)) mh)) Q := oc
      rw [Out.bind_assoc] at oc
      have xy : Ext wc Hc wc Hy := by
        rcases hH with rfl | ⟨p, ob, hp, rfl⟩
        · exact .refl
        · exact Ext.lay hp
      have Ry : RelH J.T wc mhc Hy := by
        rcases hH with rfl | ⟨p, ob, hp, rfl⟩
        · exact Rc
        · exact Rc.lay hp
      have Rw := (R.ext (x1.trans (xc.trans xy)) Ry).wipe (vs := own)
      unfold dcmpTurn at oc
      cases hb : bindT tg d (wipeM env own) with
      | none => rw [hb] at oc; exact oc.elim
      | some env' =>
        rw [hb] at oc
        have oc := oc
        rw [Out.bind_assoc] at oc
        refine ⟨wc, wipeM env own, d, env', mhc, Rw, bd, hb, fun σ2 R2 n2 => ⟨?_, ?_⟩⟩
        · rw [wipe_near n2 hsl, wipe_wipe]
        · refine ⟨wc, env', mhc, R2, (OG.noexcAt (rel := relB) (w := wc) (H := Hy) oc).mono fun b H3 ⟨w3, b', mh3, x3, R3, r3, o3⟩ => ?_⟩
          cases (show b = b' from r3)
          have tail : ∀ {w4 : Wd} {H4 : Hp}, Ext w3 H3 w4 H4 → Ext w1 H1 w4 H4 ∧ H4 D = some (.dK acc) ∧ DvK J.T.g w4.F H4 acc accD ∧ D ∉ w4.cs ∧ ¬ w4.F D := fun {w4 H4} x4 => by
            have xx := xy.trans (x3.trans x4)
            exact ⟨xc.trans xx, xx.there hDc hnc, xx.dvK da, xx.nc hDc hnc, xx.nF hDc hnc hnf⟩
          cases b with
          | true =>
            rw [if_pos rfl]
            have o3 : OG J.T (relF J.T H) (fun c d H' => J.W c d σ H') w1 H1 (noExc ((((evP C ek).1 env' mh3).bind fun r mh => (match r with
              | .dat d => ((evP C ev).1 env' mh).bind fun q mh => (match q with
                | .dat e => .ok (some (d, e)) mh
                | _ => .stuck)
              | _ => .stuck)).bind fun r mh' => (match r with
              | some p => if isKey1 p.1 then dcmpL (dcmpTurn C ek ev tg c own env) (ds.drop (i + 1)) mh' (dput accD p.1 p.2) else .stuck
              | none => dcmpL (dcmpTurn C ek ev tg c own env) (ds.drop (i + 1)) mh' accD).bind fun kvs mh => .ok (.dat (.dict kvs)) mh)) Q := o3
            rw [Out.bind_assoc] at o3
            refine ⟨w3, env', mh3, R2.ext x3 R3, (OG.noexcAt (rel := RvOk J.T) (w := w3) (H := H3) o3).mono fun y H4 ⟨w4, rv, mh4, x4, R4, r4, o4⟩ => ?_⟩
            cases rv with
            | dat dk =>
              have o4 : OG J.T (relF J.T H) (fun c d H' => J.W c d σ H') w1 H1 (noExc ((((evP C ev).1 env' mh4).bind fun q mh => (match q with
                | .dat e => .ok (some (dk, e)) mh
                | _ => .stuck)).bind fun r mh' => (match r with
                | some p => if isKey1 p.1 then dcmpL (dcmpTurn C ek ev tg c own env) (ds.drop (i + 1)) mh' (dput accD p.1 p.2) else .stuck
                | none => dcmpL (dcmpTurn C ek ev tg c own env) (ds.drop (i + 1)) mh' accD).bind fun kvs mh => .ok (.dat (.dict kvs)) mh)) Q := o4
              rw [Out.bind_assoc] at o4
              refine ⟨w4, env', mh4, (R2.ext x3 R3).ext x4 R4, (OG.noexcAt (rel := RvOk J.T) (w := w4) (H := H4) o4).mono fun z H5 ⟨w5, rz, mh5, x5, R5, r5, o5⟩ => ?_⟩
              cases rz with
              | dat dz =>
                obtain ⟨t1, t2, t3, t4, t5⟩ := tail (x4.trans x5)
                have o5 : OG J.T (relF J.T H) (fun c d H' => J.W c d σ H') w1 H1 (noExc ((if isKey1 dk then dcmpL (dcmpTurn C ek ev tg c own env) (ds.drop (i + 1)) mh5 (dput accD dk dz) else .stuck).bind fun kvs mh => .ok (.dat (.dict kvs)) mh)) Q := o5
                split at o5
                · rename_i hk1
                  obtain ⟨kk, rfl⟩ := isKey1_of hk1
                  have hyk := keyV (.inl r4)
                  have hb24 : ds.length ≤ sizeLine := big_le hbig
                  have hl2 := length_putK acc kk z
                  exact ⟨acc, kk, hyk, t2, by omega, w5, mh5, putK acc kk z, dput accD (keyD kk) dz, Ext.over t1 hD, R5.over t4 t5, upd_same, (dvK_put kk r5 t3).over t5, by omega, t4, t5, o5⟩
                · exact o5.elim
              | ref n => exact o5.elim
              | olst ds => exact o5.elim
              | odct ps => exact o5.elim
              | xcp c a => exact o5.elim
            | ref n => exact o4.elim
            | olst ds => exact o4.elim
            | odct ps => exact o4.elim
            | xcp c a => exact o4.elim
          | false =>
            rw [if_neg (by simp)]
            obtain ⟨t1, t2, t3, t4, t5⟩ := tail .refl
            exact ⟨w3, mh3, acc, accD, t1, R3, t2, t3, by omega, t4, t5, o3⟩
    · have hie : i = ds.length := by omega
      subst hie
      refine .inl ⟨wkc.2.1, ?_⟩
      rw [List.drop_length] at oc
      have hD0 := x1.old R1 D hD
      exact oc wc (.ref D) Hc xc Rc ⟨D, _, rfl, rfl, hD0, hnc, hnf, .inl ⟨acc, hDc, da⟩⟩
  · exact o1.elim
end
end Mn
end
section
set_option linter.all false
set_option autoImplicit false
set_option maxRecDepth 100000
/-! Mini: a list comprehension over a range, where an exception is handled (its end raises, so the handled one is pinned through the block). -/
namespace Mn
open PySem PySem.Spec PyProof.Rows L2
section
variable {X : Cx}
/-- the block of such a comprehension: the handled exception p stands through it -/
theorem hot_core {pins : List (Addr × Obj)} {s : Shared} {σ : L2.St} {H : Hp} {Q : VK} {elt tg iter : Expr} {ifs : List Expr} {scope : Scope} {own : List (Str × Nat)} {pos pos' : Pos} {wi : TI} {g : TG} {tt : TT} {te : TE} {use : Option (Value → Sem Unit)} {Qf : Value → Shared → Prop}
    (hot : L2H.HotC X) (hN : X.N.Nodup) (I : Inv X pins σ H s) (hi : L2H.PIH X tg iter wi) (ok : BlkOk X.N X.env.scope scope own)
    (hg : ∀ (s : Shared) (H : Hp) (C : Addr) (cl : List (Str × Addr)) (fp : List Addr), PG (X.blk s H scope (compEnvC scope cl C X.env) fp) tg g)
    (ht : ∀ (s : Shared) (H : Hp) (C : Addr) (cl : List (Str × Addr)) (fp : List Addr), PTs (X.blk s H scope (compEnvC scope cl C X.env) fp) ifs tt)
    (he : ∀ (s : Shared) (H : Hp) (C : Addr) (cl : List (Str × Addr)) (fp : List Addr), PE (X.blk s H scope (compEnvC scope cl C X.env) fp) elt te) (hs : ∀ x, foldedSetIterable iter X.env x = pure x)
    (h : tLc wi g tt te (own.map (·.2)) σ H Q)
    (hRR : ∀ D C s' m H', Inv X pins σ H' s' → Q (.ref D) H' → s'.heap.Ns C m → FpOk X pins H' C → compPost (model X.prog X.w) X.A X.xe use Qf (.ref D) C (.ok .next) s') :
    wpAny (model X.prog X.w) X.A (comprehension (.ListComp elt [⟨tg, iter, ifs, 0⟩] scope pos) scope X.env pos' (newList []) false (eval iter X.env) use) Qf X.xe s := by
  obtain ⟨p, hp1, hpn⟩ := hot
  have hfree : ∀ y ∈ scope.names, y.2 = .free → ∃ c, X.env.cells.lookup y.1 = some c := fun y hy e => (ok.free y hy e).elim (fun k => I.ok.has _ (.inl k)) fun k => I.ok.has _ (.inr k)
  refine wpAny_comprehension_free (use := use) rfl hs (closure_ok hfree) ok.kind (fun y hy e => by rw [ok.uniq y hy, e]) (thn (hi.run pins s σ H _ I h) fun xv s1 hx => thn hx fun itv s2 ⟨it, fp, tn, J, H2, e, I2, T, st2, f2, q⟩ => ?_)
  subst e
  refine wpAny_newObj_type (newEnv_comp ?_) (by show 0 ≤ sizeLine; decide)
  generalize hD : s2.heap.objs.size = D
  obtain ⟨W, ⟨m0, w0⟩, turn⟩ := q D (I2.hok.fresh (Nat.le_of_eq hD))
  generalize hs3 : ({ s2 with heap := s2.heap.push { cls := .type "list", data := .seq ([] : List Value).toArray } } : Shared) = s3
  have h3 : s3.heap = s2.heap.push { cls := .type "list", data := .seq ([] : List Value).toArray } := by rw [← hs3]
  have I3 : Inv X pins σ (upd H2 D (.lst [])) s3 := by
    subst hs3 hD
    exact I2.lnew (its := []) (t' := s2.toks) .nil (Nat.zero_le _)
  have there : ∀ b ∈ fp, b < s2.heap.objs.size := fun b hb => let ⟨o, e, _⟩ := T.obj _ _ st2 b hb; Heap.lt_size e
  have f3 : ∀ b ∈ fp, FpOk X pins (upd H2 D (.lst [])) b ∧ b < s3.heap.objs.size := fun b hb => by
    have hlt := there b hb
    refine ⟨⟨?_, (f2 b hb).2⟩, ?_⟩
    · rw [upd_ne (show b ≠ D by rw [← hD]; exact Nat.ne_of_lt hlt)]
      exact (f2 b hb).1
    · rw [h3, Heap.size_push]
      exact Nat.lt_succ_of_lt hlt
  have st3 : tn 0 s3.heap := T.keep _ _ _ st2 fun b _ o e => by rw [h3]; exact Heap.get?_push_of_some _ e
  have I4 := block_start I3 ok hN f3
  have pg := hg s3 (upd H2 D (.lst [])) s3.heap.objs.size (cellsFrom (s3.heap.objs.size + 1) scope.names (cloFrom X.env.cells scope.names [])) fp
  have pt := ht s3 (upd H2 D (.lst [])) s3.heap.objs.size (cellsFrom (s3.heap.objs.size + 1) scope.names (cloFrom X.env.cells scope.names [])) fp
  have pe := he s3 (upd H2 D (.lst [])) s3.heap.objs.size (cellsFrom (s3.heap.objs.size + 1) scope.names (cloFrom X.env.cells scope.names [])) fp
  have fp0 : ∀ b ∈ fp, (upd H2 D (.lst [])) b = none := fun b hb => (f3 b hb).1.1
  -- the handled exception, as it stands
  obtain ⟨p1, p2, p3, p4, p5⟩ := I3.pin p (List.mem_append_left _ hpn)
  have pfp : ∀ b ∈ fp, p.1 ≠ b := fun b hb => (f3 b hb).1.2.2.2.2.2 p (List.mem_append_left _ hpn)
  show codeAny _ _ (.compStart (.ListComp elt [⟨tg, iter, ifs, 0⟩] scope pos) 0 (.ref it) (.ref D) (compEnvC scope (cellsFrom (s3.heap.objs.size + 1) scope.names (cloFrom X.env.cells scope.names [])) s3.heap.objs.size X.env)) (compPost (model X.prog X.w) X.A X.xe use Qf (.ref D) s3.heap.objs.size) { s3 with heap := pushCells (s3.heap.push { cls := .type "dict", data := .dict #[] }) scope.names }
  have st4 : tn 0 (pushCells (s3.heap.push { cls := .type "dict", data := .dict #[] }) scope.names) := T.keep _ _ _ st3 fun b _ o e => pushCells_keeps _ _ _ _ (Heap.get?_push_of_some _ e)
  have p1' : (pushCells (s3.heap.push { cls := .type "dict", data := .dict #[] }) scope.names).get? p.1 = some p.2 := pushCells_keeps _ _ _ _ (Heap.get?_push_of_some _ p1)
  generalize hce : compEnvC scope (cellsFrom (s3.heap.objs.size + 1) scope.names (cloFrom X.env.cells scope.names [])) s3.heap.objs.size X.env = ce at I4 pg pt pe ⊢
  have cL : ce.locals = s3.heap.objs.size := by subst hce; rfl
  generalize hH3 : upd H2 D (.lst []) = H3 at I3 I4 pg pt pe w0 fp0 f3 p2
  have I4p : Inv (X.blk s3 H3 scope ce fp) [p] (L2.wipe σ (own.map (·.2))) H3 { s3 with heap := pushCells (s3.heap.push { cls := .type "dict", data := .dict #[] }) scope.names } := I4.pins_of fun q hq => by
    rw [List.mem_singleton.mp hq]
    refine ⟨p1', p2, ?_, ?_, p5⟩
    · rw [show (X.blk s3 H3 scope ce fp).env.locals = s3.heap.objs.size from cL]
      exact Nat.ne_of_lt (Heap.lt_size p1)
    · intro z
      exact (List.mem_cons.mp (I3.stkSub p.1 z)).elim p3 p4
  generalize hs4 : ({ s3 with heap := pushCells (s3.heap.push { cls := .type "dict", data := .dict #[] }) scope.names } : Shared) = s4 at I4p ⊢
  have st4 : tn 0 s4.heap := by rw [← hs4]; exact st4
  have stat : ∀ {σ' : L2.St} {H' : Hp} {s' : Shared}, Inv (X.blk s3 H3 scope ce fp) [p] σ' H' s' → (∀ b ∈ fp, H' b = none) → ∀ b ∈ fp, FpOk (X.blk s3 H3 scope ce fp) [p] H' b := fun {σ' H' s'} I' hn b hb =>
    ⟨hn b hb, (I'.ok.exf b hb).1, I'.ok.exfs b hb, .inl hb, fun x c e => (I'.ok.exf b hb).2 x c e, fun q hq => by
      have : q = p := by simpa using hq
      rw [this]; exact pfp b hb⟩
  have hotB : L2H.HotC ((X.blk s3 H3 scope ce fp).tr ([] ++ [p]) fun _ _ => False) := ⟨p, hp1, by simp⟩
  have statT : ∀ {H' : Hp} {b : Addr}, FpOk (X.blk s3 H3 scope ce fp) [p] H' b → FpOk ((X.blk s3 H3 scope ce fp).tr ([] ++ [p]) fun _ _ => False) [] H' b := fun {H' b} f => ⟨f.1, f.2.1, f.2.2.1, f.2.2.2.1, f.2.2.2.2.1, fun q hq => f.2.2.2.2.2 q (by simpa using hq)⟩
  have loop : codeAny (model X.prog X.w) X.A (.compLoop (.ListComp elt [⟨tg, iter, ifs, 0⟩] scope pos) 0 (.ref it) (.ref D) ce) (compPost (model X.prog X.w) X.A X.xe use Qf (.ref D) s3.heap.objs.size) s4 := by
    refine compLoop_any (fun n s' => ∃ i H', Inv (X.blk s3 H3 scope ce fp) [p] (L2.wipe σ (own.map (·.2))) H' s' ∧ tn i s'.heap ∧ (∀ b ∈ fp, H' b = none) ∧ W i n H') ?_ m0 ⟨0, H3, I4p, st4, fp0, w0⟩
    rintro n s5 ⟨i, H5, I5, st5, n5, w5⟩
    rcases turn i n H5 w5 with ⟨stop, qq⟩ | ⟨go, Nx, hNx, step⟩
    · refine thnF (T.done ((X.blk s3 H3 scope ce fp).tr ([] ++ [p]) fun _ _ => False) rfl rfl rfl hotB i [] s5 _ H5 (fun _ _ => False) (I5.toTry _) (fun b hb => statT (stat I5 n5 b hb)) st5 stop) fun r s6 ⟨hr, I6'⟩ => ?_
      subst hr
      have I6 : Inv (X.blk s3 H3 scope ce fp) [p] _ H5 s6 := I6'.ofTry I5.ok
      have I7 : Inv X pins σ H5 s6 := I3.call' (ch := fp) I6.os I6.base I6.hok I6.bare fun b hb => ⟨(f3 b hb).1.2.2.2.1, (f3 b hb).1.2.1, (f3 b hb).1.2.2.2.2.1, (f3 b hb).1.2.2.2.2.2⟩
      obtain ⟨m, hn, _⟩ := I6.loc
      have nC : H5 s3.heap.objs.size = none := by rw [← cL]; exact I6.free
      have hn : s6.heap.Ns s3.heap.objs.size m := by rw [← cL]; exact hn
      exact hRR D s3.heap.objs.size s6 m H5 I7 qq hn (I3.fpOk (Nat.le_refl _) nC)
    · refine thnF (T.item ((X.blk s3 H3 scope ce fp).tr ([] ++ [p]) fun _ _ => False) rfl rfl rfl hotB i [] s5 _ H5 (fun _ _ => False) (I5.toTry _) (fun b hb => statT (stat I5 n5 b hb)) st5 go) fun r s6 ⟨u, hr, h6⟩ => ?_
      subst hr
      refine thnF h6 fun _ s7 ⟨x, H7, I7', r7, y7, st7, n7⟩ => ?_
      have I7 : Inv (X.blk s3 H3 scope ce fp) [p] _ H7 s7 := I7'.ofTry I5.ok
      have I7p := I7.pinned (stat I7 n7) (T.obj _ _ st7)
      refine thnF (pg.run _ s7 _ H7 x u _ I7p r7 (step x H7 y7)) fun _ s8 ⟨σ8, H8, I8, hw8, q8⟩ => ?_
      refine thnF (pt.run _ s8 σ8 H8 _ I8 q8) fun b s9 ⟨H9, I9, q9⟩ => ?_
      have fin : ∀ {s' : Shared} {H' : Hp}, Inv (X.blk s3 H3 scope ce fp) ([p] ++ pinsAt fp s7.heap) σ8 H' s' → Nx H' → ∃ m, m < n ∧ ∃ i H', Inv (X.blk s3 H3 scope ce fp) [p] (L2.wipe σ (own.map (·.2))) H' s' ∧ tn i s'.heap ∧ (∀ b ∈ fp, H' b = none) ∧ W i m H' := fun {s' H'} I' nx => by
        obtain ⟨m', hm, w'⟩ := hNx H' nx
        have pin' : ∀ b ∈ fp, ∀ o, s7.heap.get? b = some o → s'.heap.get? b = some o ∧ H' b = none := fun b hb o e =>
          let z := I'.pin (b, o) (List.mem_append_right _ (List.mem_append_right _ (mem_pinsAt hb e)))
          ⟨z.1, z.2.1⟩
        refine ⟨m', hm, i + 1, H', (I'.unpinned (pins := [p])).weak (by rw [← hw8, L2.wipe_length]) (fun j v e => ?_), T.keep _ _ _ st7 fun b hb o e => (pin' b hb o e).1, fun b hb => ?_, w'⟩
        · rw [← hw8] at e
          exact (wipe_some e).1
        · obtain ⟨o, e, _⟩ := T.obj _ _ st7 b hb
          exact (pin' b hb o e).2
      cases b with
      | false =>
        simp only [Bool.false_eq_true, if_false] at q9 ⊢
        exact fin I9 q9
      | true =>
        simp only [if_true] at q9 ⊢
        refine thnF (pe.run _ s9 σ8 H9 _ I9 q9) fun z s10 ⟨yv, H10, I10, r10, acc, hD10, hz10, nx⟩ => ?_
        exact app_ok (X := X.blk s3 H3 scope ce fp) I10 hD10 hz10 r10 fun s11 I11 => fin I11 nx
  exact codeAny_compStart_list loop (T.self X.A 0 _ _ _ st4 loop)
theorem pe_hot {elt tg iter : Expr} {ifs : List Expr} {scope : Scope} {own : List (Str × Nat)} {pos : Pos} {wi : TI} {g : TG} {tt : TT} {te : TE} (hot : L2H.HotC X) (hN : X.N.Nodup) (hi : L2H.PIH X tg iter wi) (ok : BlkOk X.N X.env.scope scope own)
    (hg : ∀ (s : Shared) (H : Hp) (C : Addr) (cl : List (Str × Addr)) (fp : List Addr), PG (X.blk s H scope (compEnvC scope cl C X.env) fp) tg g)
    (ht : ∀ (s : Shared) (H : Hp) (C : Addr) (cl : List (Str × Addr)) (fp : List Addr), PTs (X.blk s H scope (compEnvC scope cl C X.env) fp) ifs tt)
    (he : ∀ (s : Shared) (H : Hp) (C : Addr) (cl : List (Str × Addr)) (fp : List Addr), PE (X.blk s H scope (compEnvC scope cl C X.env) fp) elt te) (hs : ∀ x, foldedSetIterable iter X.env x = pure x) :
    PE X (.ListComp elt [⟨tg, iter, ifs, 0⟩] scope pos) (tLc wi g tt te (own.map (·.2))) := by
  refine ⟨fun pins s σ H Q I h => ?_⟩
  rw [eval_ListComp]
  refine hot_core hot hN I hi ok hg ht he hs h fun D Ca s' m H' I' q hn ⟨z0, z1, z2, z3, z4, z5⟩ => ⟨m, hn, fun h'' sb => ?_⟩
  exact ⟨.ref D, H', I'.turned (t' := s'.toks) (fun b o hb e => (sb.2 b hb).trans e) z0 z1 z3 z4 z5, rfl, q⟩
theorem ps_setHot {i : Nat} {y : Str} {py : Pos} {elt tg iter : Expr} {ifs : List Expr} {scope : Scope} {own : List (Str × Nat)} {pos spos : Pos} {wi : TI} {g : TG} {tt : TT} {te : TE} (hot : L2H.HotC X) (hN : X.N.Nodup) (hy : X.N[i]? = some y) (hyl : X.env.scope.names.lookup y = some .local)
    (hsw : swapsWith (.ListComp elt [⟨tg, iter, ifs, 0⟩] scope pos) (some (.Name y py)) spos.line X.env = pure true) (hi : L2H.PIH X tg iter wi) (ok : BlkOk X.N X.env.scope scope own)
    (hg : ∀ (s : Shared) (H : Hp) (C : Addr) (cl : List (Str × Addr)) (fp : List Addr), PG (X.blk s H scope (compEnvC scope cl C X.env) fp) tg g)
    (ht : ∀ (s : Shared) (H : Hp) (C : Addr) (cl : List (Str × Addr)) (fp : List Addr), PTs (X.blk s H scope (compEnvC scope cl C X.env) fp) ifs tt)
    (he : ∀ (s : Shared) (H : Hp) (C : Addr) (cl : List (Str × Addr)) (fp : List Addr), PE (X.blk s H scope (compEnvC scope cl C X.env) fp) elt te) (hs : ∀ x, foldedSetIterable iter X.env x = pure x) :
    PS X (.Assign [.Name y py] (.ListComp elt [⟨tg, iter, ifs, 0⟩] scope pos) spos) (tAsg (tLc wi g tt te (own.map (·.2))) (gName i)) := by
  refine ⟨fun pins s σ H D I h => ?_⟩
  rw [exec_Assign_Name_used _ _ _ _ hsw]
  refine wpAny_bind (wpAny_standAt (wpAny_bind ?_))
  show wpAny _ X.A (do let _ ← comprehension (.ListComp elt [⟨tg, iter, ifs, 0⟩] scope pos) scope X.env (firstIterPos [⟨tg, iter, ifs, 0⟩] pos) (newList []) false (eval iter X.env) (some (assign (.Name y py) X.env))) _ _ s
  have h : tLc wi g tt te (own.map (·.2)) σ H (fun x H1 => gName i x σ H1 D.nx) := h
  refine wpAny_bind (thn (hot_core (Qf := fun _ s' => SP X pins D .next s') hot hN I hi ok hg ht he hs h fun L Ca s' m H' I' q hn ⟨z0, z1, z2, z3, z4, z5⟩ => ?_) fun _ s' hq => wpAny_pure (wpAny_pure hq))
  show wpAny _ _ (assign (.Name y py) X.env (.ref L)) _ _ _
  refine wpAny_assign_Name (store_ok2 (v := V.ref L) I' hN hy (.inl hyl) rfl (fun s2 I2 ⟨a, sb, ha⟩ => ?_) (.inr hyl))
  have haC : Ca ≠ a := ha.elim (fun z => by rw [z]; exact z1) fun z e => z4 y a z e.symm
  exact ⟨m, hn.sameBut sb haC, fun h3 sb3 => ⟨_, H', I2.turned (t' := s2.toks) (fun b o hb e => (sb3.2 b hb).trans e) z0 z1 z3 z4 z5, q⟩⟩
end
end Mn
end
section
set_option linter.all false
set_option autoImplicit false
set_option maxRecDepth 100000
/-! Mini: rules for what is walked. -/
namespace Mn
open PySem PySem.Spec PyProof.Rows L2

section
variable {X : Cx} {J : Jd} {C : CallF} {K : KeepR} {tg : Tg}
theorem dv_list {T : PySem.W.Frag} {g : Pw} {w : Wd} {H : Hp} {v : V} {xs : List PyData} (h : Dv g w.F H v (.list xs)) : ∃ a vs, v = .ref a ∧ ∀ w' H', FKeep w H w' H' → SqL T H' a vs ∧ DvA g w'.F H' vs xs := by
  cases h with
  | @lst a vs ds f r t =>
    refine ⟨a, vs, rfl, fun w' H' k => ⟨?_, t.mono k.1 fun b o fb eb => k.2 b o fb eb⟩⟩
    rcases r with r | ⟨o, r⟩
    · exact .inl (.inl (k.2 a _ f r))
    · exact .inl (.inr ⟨o, k.2 a _ f r⟩)
theorem dv_tup {T : PySem.W.Frag} {g : Pw} {w : Wd} {H : Hp} {v : V} {xs : List PyData} (h : Dv g w.F H v (.tuple xs)) : ∃ a vs, v = .ref a ∧ ∀ w' H', FKeep w H w' H' → SqT T H' a vs ∧ DvA g w'.F H' vs xs := by
  cases h with
  | @tup a vs ds f r t =>
    obtain ⟨o, r, _⟩ := r
    exact ⟨a, vs, rfl, fun w' H' k => ⟨.inl (.inr ⟨o, k.2 a _ f r⟩), t.mono k.1 fun b o fb eb => k.2 b o fb eb⟩⟩
theorem dv_seq {T : PySem.W.Frag} {g : Pw} {w : Wd} {H : Hp} {v : V} {d : PyData} {xs : List PyData} (h : Dv g w.F H v d) (e : seqD d = some xs) : ∃ k a vs, v = .ref a ∧ ∀ w' H', FKeep w H w' H' → SqB k T H' a vs ∧ DvA g w'.F H' vs xs := by
  cases d with
  | list ds => cases (Option.some.inj e); obtain ⟨a, vs, h1, h2⟩ := dv_list (T := T) h; exact ⟨true, a, vs, h1, h2⟩
  | tuple ds => cases (Option.some.inj e); obtain ⟨a, vs, h1, h2⟩ := dv_tup (T := T) h; exact ⟨false, a, vs, h1, h2⟩
  | _ => cases e
/-- data is walked -/
def walkV (own : Bool) (x : RV) (mh : MH) : Out (List PyData) := match x with
  | .dat d => (match itemsD d with
    | some xs => .ok xs mh
    | none => .stuck)
  | .olst xs => if own then .ok xs mh else .stuck
  | _ => .stuck
theorem mi_run {own : Bool} {x xt : Expr} {m : MEnv → MH → Out RV} {mi : MEnv → MH → Out (List PyData)} (ha : PE X x (TEm J m)) (hk : ∀ w H w' H', K w H w' H' → FKeep w H w' H') (ho : own = true → ∀ w H w' H', K w H w' H' → Ext w H w' H')
    (hm : ∀ env mh, mi env mh = (m env mh).bind (walkV own)) : PI X xt x (TIm J K tg mi) := by
  refine ⟨fun pins s σ H R I ⟨w, env, mh, Rl, o⟩ => ?_⟩
  rw [hm] at o
  cases he : m env mh with
  | stuck => rw [he] at o; exact o.elim
  | exc y mh1 =>
    refine (pi_list ha).run pins s σ H R I ⟨w, env, mh, Rl, ?_⟩
    rw [he] at o ⊢
    exact o
  | ok rv mh1 =>
    rw [he] at o
    cases rv with
    | dat d =>
      cases d with
      | list xs =>
        have o : OG J.T (WalksR K tg J.T.g) (fun c d H' => J.W c d σ H') w H (.ok xs mh1) R := o
        refine (pi_list ha).run pins s σ H R I ⟨w, env, mh, Rl, ?_⟩
        rw [he]
        intro w' v H' x' R' r'
        obtain ⟨a, vs, rfl, h⟩ := dv_list (T := X.K) r'
        exact ⟨a, rfl, ⟨vs, (h w' H' .refl).1⟩, o w' _ H' x' R' (walks_list fun w2 H2 q => h w2 H2 (hk _ _ _ _ q))⟩
      | tuple xs =>
        have o : OG J.T (WalksR K tg J.T.g) (fun c d H' => J.W c d σ H') w H (.ok xs mh1) R := o
        refine (pi_tup ha).run pins s σ H R I ⟨w, env, mh, Rl, ?_⟩
        rw [he]
        intro w' v H' x' R' r'
        obtain ⟨a, vs, rfl, h⟩ := dv_tup (T := X.K) r'
        exact ⟨a, rfl, ⟨vs, (h w' H' .refl).1⟩, o w' _ H' x' R' (walks_tup fun w2 H2 q => h w2 H2 (hk _ _ _ _ q))⟩
      | str z =>
        have o : OG J.T (WalksR K tg J.T.g) (fun c d H' => J.W c d σ H') w H (.ok (z.cps.toList.map fun c => .str ⟨#[c]⟩) mh1) R := o
        refine (pi_str ha).run pins s σ H R I ⟨w, env, mh, Rl, ?_⟩
        rw [he]
        intro w' v H' x' R' r'
        cases r'
        exact ⟨z, rfl, o w' _ H' x' R' walks_str⟩
      | _ => exact o.elim
    | olst xs =>
      have o : OG J.T (WalksR K tg J.T.g) (fun c d H' => J.W c d σ H') w H (if own = true then .ok xs mh1 else .stuck) R := o
      split at o
      · rename_i hw
        refine (pi_list ha).run pins s σ H R I ⟨w, env, mh, Rl, ?_⟩
        rw [he]
        intro w' v H' x' R' r'
        obtain ⟨a, vs, rfl, h1, h2, h3, h4⟩ := r'
        exact ⟨a, rfl, ⟨vs, .inl (.inl h1)⟩, o w' _ H' x' R' (walks_list fun w2 H2 q => ⟨.inl (.inl ((ho hw _ _ _ _ q).there h1 h3)), (ho hw _ _ _ _ q).dvA h2⟩)⟩
      · exact o.elim
    | _ => exact o.elim
theorem mi_of {x xt : Expr} {e : E} (ha : PE X x (TEm J (evE C e))) : PI X xt x (TIm J Ext tg (evIt C (.of e))) :=
  mi_run (own := true) ha (fun _ _ _ _ h => h.fk) (fun _ _ _ _ _ h => h) fun env mh => by
    show ((evP C e).1 env mh).bind _ = _
    congr 1
theorem mi_ofF {x xt : Expr} {e : E} (ha : PE X x (TEm J (evE C e))) : PI X xt x (TIm J FKeep tg (evItF C (.of e))) :=
  mi_run (own := false) ha (fun _ _ _ _ h => h) (fun h => by cases h) fun env mh => by
    show ((evP C e).1 env mh).bind _ = _
    congr 1
    funext x mh
    cases x <;> first | rfl | exact (if_neg (by simp)).symm
/-- range(n), range(i, j) -/
theorem mi_rng1 {x xt : Expr} {a : E} {p pos : Pos} (ha : PE X x (TEm J (evE C a))) (hg : Gl X "range") (hm : X.mg "range" = none) (hp : plainX x = true) : PI X xt (.Call (.Name "range" p) [x] [] pos) (TIm J K tg (evIt C (.rng1 a))) :=
  PI.weak (pi_range1 hg hm (pa_cons ha pa_nil (star_of hp)) (star_of hp)) fun σ H R ⟨w, env, mh, Rl, o⟩ => by
    refine ⟨w, env, mh, Rl, (OG.bind (rel := RvOk J.T) o).mono fun v H1 ⟨w1, rv, mh1, _, x1, R1, r1, o1⟩ => ?_⟩
    split at o1
    · split at o1
      · rename_i hn
        have hn := of_decide_eq_true hn
        cases r1
        exact ⟨_, rfl, by omega, by omega, o1 w1 _ H1 .refl R1 walks_rng⟩
      · exact o1.elim
    · exact o1.elim
theorem mi_rng2 {x y xt : Expr} {a b : E} {p pos : Pos} (ha : PE X x (TEm J (evE C a))) (hb : PE X y (TEm J (evE C b))) (hg : Gl X "range") (hm : X.mg "range" = none) (hp : [x, y].all plainX = true) : PI X xt (.Call (.Name "range" p) [x, y] [] pos) (TIm J K tg (evIt C (.rng2 a b))) := by
  have hp' := hp
  simp only [List.all_cons, Bool.and_eq_true] at hp'
  exact PI.weak (pi_range2 hg hm (pa_cons ha (pa_cons hb pa_nil (star_of hp'.2.1)) (star_of hp'.1)) (star_all hp) (star_all (es := [y]) (by simp [hp'.2.1]))) fun σ H R ⟨w, env, mh, Rl, o⟩ => by
    refine ⟨w, env, mh, Rl, (OG.bind (rel := RvOk J.T) o).mono fun v H1 ⟨w1, rv, mh1, _, x1, R1, r1, o1⟩ => ?_⟩
    refine ⟨w1, env, mh1, Rl.ext x1 R1, (OG.bind (rel := RvOk J.T) o1).mono fun u H2 ⟨w2, ru, mh2, _, x2, R2, r2, o2⟩ => ?_⟩
    split at o2
    · split at o2
      · rename_i hn
        have hn := of_decide_eq_true hn
        cases r1
        cases r2
        exact ⟨_, _, rfl, by omega, o2 w2 _ H2 .refl R2 walks_rng⟩
      · exact o2.elim
    · exact o2.elim
/-- zip, enumerate -/
theorem mi_zip2 {x y : Expr} {a b : E} {p pos tpos : Pos} {elts : List Expr} {kk : Nat} (hk : ∀ w H w' H', K w H w' H' → FKeep w H w' H') (ht : tg.seq = true) (ha : PE X x (TEm J (evE C a))) (hb : PE X y (TEm J (evE C b))) (hg : Gl X "zip") (hm : X.mg "zip" = none) (hp : [x, y].all plainX = true) :
    PI X (.Tuple elts kk tpos) (.Call (.Name "zip" p) [x, y] [] pos) (TIm J K tg (evIt C (.zip2 a b))) := by
  have hp' := hp
  simp only [List.all_cons, Bool.and_eq_true] at hp'
  exact PI.weak (pi_zipB hg hm (pa_cons ha (pa_cons hb pa_nil (star_of hp'.2.1)) (star_of hp'.1)) (star_of hp'.1) (star_any (es := [y]) (by simp [hp'.2.1]))) fun σ H R ⟨w, env, mh, Rl, o⟩ => by
    refine ⟨w, env, mh, Rl, (OG.bind (rel := RvOk J.T) o).mono fun v H1 ⟨w1, rv, mh1, _, x1, R1, r1, o1⟩ => ?_⟩
    refine ⟨w1, env, mh1, Rl.ext x1 R1, (OG.bind (rel := RvOk J.T) o1).mono fun u H2 ⟨w2, ru, mh2, _, x2, R2, r2, o2⟩ => ?_⟩
    split at o2
    · split at o2
      · rename_i xs ys e1 e2
        obtain ⟨k1, a1, vs1, rfl, h1⟩ := dv_seq (T := X.K) (x2.dv r1) e1
        obtain ⟨k2, a2, vs2, rfl, h2⟩ := dv_seq (T := X.K) r2 e2
        obtain ⟨s1, _⟩ := h1 w2 H2 .refl
        obtain ⟨s2, _⟩ := h2 w2 H2 .refl
        refine ⟨k1, k2, a1, a2, vs1, vs2, rfl, s1, s2, o2 w2 _ H2 .refl R2 (walks_zipB (vs := vs1) (us := vs2) ht fun w' H' q => ?_)⟩
        obtain ⟨z1, z2⟩ := h1 w' H' (hk _ _ _ _ q)
        obtain ⟨z3, z4⟩ := h2 w' H' (hk _ _ _ _ q)
        exact ⟨z1, z2, z3, z4⟩
      · exact o2.elim
    · exact o2.elim
theorem mi_zip3 {x y z : Expr} {a b c : E} {p pos tpos : Pos} {elts : List Expr} {kk : Nat} (hk : ∀ w H w' H', K w H w' H' → FKeep w H w' H') (ht : tg.seq = true) (ha : PE X x (TEm J (evE C a))) (hb : PE X y (TEm J (evE C b))) (hc : PE X z (TEm J (evE C c))) (hg : Gl X "zip") (hm : X.mg "zip" = none) (hp : [x, y, z].all plainX = true) :
    PI X (.Tuple elts kk tpos) (.Call (.Name "zip" p) [x, y, z] [] pos) (TIm J K tg (evIt C (.zip3 a b c))) := by
  have hp' := hp
  simp only [List.all_cons, Bool.and_eq_true] at hp'
  exact PI.weak (pi_zipC hg hm (pa_cons ha (pa_cons hb (pa_cons hc pa_nil (star_of hp'.2.2.1)) (star_of hp'.2.1)) (star_of hp'.1)) (star_of hp'.1) (star_any (es := [y, z]) (by simp [hp'.2.1, hp'.2.2.1]))) fun σ H R ⟨w, env, mh, Rl, o⟩ => by
    refine ⟨w, env, mh, Rl, (OG.bind (rel := RvOk J.T) o).mono fun v H1 ⟨w1, rv, mh1, _, x1, R1, r1, o1⟩ => ?_⟩
    refine ⟨w1, env, mh1, Rl.ext x1 R1, (OG.bind (rel := RvOk J.T) o1).mono fun u H2 ⟨w2, ru, mh2, _, x2, R2, r2, o2⟩ => ?_⟩
    refine ⟨w2, env, mh2, (Rl.ext x1 R1).ext x2 R2, (OG.bind (rel := RvOk J.T) o2).mono fun t H3 ⟨w3, rt, mh3, _, x3, R3, r3, o3⟩ => ?_⟩
    split at o3
    · split at o3
      · rename_i xs ys zs e1 e2 e3
        obtain ⟨k1, a1, vs1, rfl, h1⟩ := dv_seq (T := X.K) (x3.dv (x2.dv r1)) e1
        obtain ⟨k2, a2, vs2, rfl, h2⟩ := dv_seq (T := X.K) (x3.dv r2) e2
        obtain ⟨k3, a3, vs3, rfl, h3⟩ := dv_seq (T := X.K) r3 e3
        obtain ⟨s1, _⟩ := h1 w3 H3 .refl
        obtain ⟨s2, _⟩ := h2 w3 H3 .refl
        obtain ⟨s3, _⟩ := h3 w3 H3 .refl
        refine ⟨k1, k2, k3, a1, a2, a3, vs1, vs2, vs3, rfl, s1, s2, s3, o3 w3 _ H3 .refl R3 (walks_zipC (vs := vs1) (us := vs2) (ws := vs3) ht fun w' H' q => ?_)⟩
        obtain ⟨z1, z2⟩ := h1 w' H' (hk _ _ _ _ q)
        obtain ⟨z3, z4⟩ := h2 w' H' (hk _ _ _ _ q)
        obtain ⟨z5, z6⟩ := h3 w' H' (hk _ _ _ _ q)
        exact ⟨z1, z2, z3, z4, z5, z6⟩
      · exact o3.elim
    · exact o3.elim
theorem mi_enum {x : Expr} {a : E} {p pos tpos : Pos} {elts : List Expr} {kk : Nat} (hk : ∀ w H w' H', K w H w' H' → FKeep w H w' H') (ht : tg.seq = true) (ha : PE X x (TEm J (evE C a))) (hg : Gl X "enumerate") (hm : X.mg "enumerate" = none) (hp : [x].all plainX = true) :
    PI X (.Tuple elts kk tpos) (.Call (.Name "enumerate" p) [x] [] pos) (TIm J K tg (evIt C (.enum a))) := by
  have hp' := hp
  simp only [List.all_cons, Bool.and_eq_true] at hp'
  exact PI.weak (pi_enumB hg hm (pa_cons ha pa_nil (star_of hp'.1)) (star_all hp)) fun σ H R ⟨w, env, mh, Rl, o⟩ => by
    refine ⟨w, env, mh, Rl, (OG.bind (rel := RvOk J.T) o).mono fun v H1 ⟨w1, rv, mh1, _, x1, R1, r1, o1⟩ => ?_⟩
    split at o1
    · split at o1
      · rename_i xs e1
        obtain ⟨k1, a1, vs1, rfl, h1⟩ := dv_seq (T := X.K) r1 e1
        obtain ⟨s1, _⟩ := h1 w1 H1 .refl
        exact ⟨k1, a1, vs1, rfl, s1, o1 w1 _ H1 .refl R1 (walks_enum (vs := vs1) ht fun w' H' q => h1 w' H' (hk _ _ _ _ q))⟩
      · exact o1.elim
    · exact o1.elim
end
end Mn
end
section
set_option linter.all false
set_option autoImplicit false
set_option maxRecDepth 100000
/-! Mini: list(zip(a, b)), xs[::-1], xs.remove(text). -/
namespace Mn
open PySem PySem.Spec PyProof.Rows L2
theorem dvA_zip {g : Pw} {F : Addr → Prop} {H : Hp} : ∀ (ts : List Addr) {vs us : List V} {ds es : List PyData}, ts.length = min vs.length us.length → (∀ t ∈ ts, F t) →
    (∀ (j : Nat) (t : Addr) (x y : V), ts[j]? = some t → vs[j]? = some x → us[j]? = some y → TupAt H t [x, y]) → DvA g F H vs ds → DvA g F H us es → DvA g F H (ts.map V.ref) (zipD2 ds es)
  | [], _, _, _, _, _, _, _, .nil, .nil => .nil
  | [], _, _, _, _, _, _, _, .nil, .cons _ _ => .nil
  | [], _, _, _, _, _, _, _, .cons _ _, .nil => .nil
  | [], _, _, _, _, hl, _, _, .cons _ _, .cons _ _ => by simp at hl
  | t :: ts, _, _, _, _, hl, _, _, .nil, _ => by simp at hl
  | t :: ts, _, _, _, _, hl, _, _, .cons _ _, .nil => by simp at hl
  | t :: ts, v :: vs, u :: us, d :: ds, e :: es, hl, hF, hT, .cons a as, .cons b bs => by
    refine .cons (.tup (hF t List.mem_cons_self) (hT 0 t v u rfl rfl rfl) (.cons a (.cons b .nil))) (dvA_zip ts ?_ (fun t ht => hF t (List.mem_cons_of_mem _ ht)) (fun j t x y h1 h2 h3 => hT (j + 1) t x y (by simpa using h1) (by simpa using h2) (by simpa using h3)) as bs)
    simp only [List.length_cons] at hl
    omega
theorem DvA.reverse {g : Pw} {F : Addr → Prop} {H : Hp} : ∀ {vs : List V} {ds : List PyData}, DvA g F H vs ds → DvA g F H vs.reverse ds.reverse
  | _, _, .nil => .nil
  | _, _, .cons a as => by
    rw [List.reverse_cons, List.reverse_cons]
    exact (DvA.reverse as).append (.cons a .nil)
section
variable {X : Cx} {J : Jd} {C : CallF}
theorem mi_rng1H {K : KeepR} {tg : Tg} {x xt : Expr} {a : E} {p pos : Pos} (ha : PE X x (TEm J (evE C a))) (hg : Gl X "range") (hm : X.mg "range" = none) (hp : plainX x = true) : L2H.PIH X xt (.Call (.Name "range" p) [x] [] pos) (TIm J K tg (evIt C (.rng1 a))) := by
  refine ⟨fun pins s σ H R I ⟨w, env, mh, Rl, o⟩ => (L2H.pi_range1H hg hm (pa_cons ha pa_nil (star_of hp)) (star_of hp)).run pins s σ H R I ?_⟩
  refine ⟨w, env, mh, Rl, (OG.bind (rel := RvOk J.T) o).mono fun v H1 ⟨w1, rv, mh1, _, x1, R1, r1, o1⟩ => ?_⟩
  split at o1
  · split at o1
    · rename_i hn
      have hn := of_decide_eq_true hn
      cases r1
      exact ⟨_, rfl, by omega, by omega, o1 w1 _ H1 .refl R1 walks_rng⟩
    · exact o1.elim
  · exact o1.elim
theorem mf_lzip {x y : Expr} {a b : E} {p p2 pos zpos : Pos} (hc : X.calm = true) (ha : PE X x (TEm J (evE C a))) (hb : PE X y (TEm J (evE C b))) (hgl : Gl X "list") (hml : X.mg "list" = none) (hg : Gl X "zip") (hm : X.mg "zip" = none) (hp : [x, y].all plainX = true) :
    PE X (.Call (.Name "list" p) [.Call (.Name "zip" p2) [x, y] [] zpos] [] pos) (TEf J (evE C (.lzip a b))) := by
  have hp' := hp
  simp only [List.all_cons, Bool.and_eq_true] at hp'
  exact PE.weak (pe_listZip hc hgl hml hg hm (pa_cons ha (pa_cons hb pa_nil (star_of hp'.2.1)) (star_of hp'.1)) (star_of hp'.1) (star_any (es := [y]) (by simp [hp'.2.1]))) fun σ H Q ⟨w, env, mh, R, o⟩ => by
    refine ⟨w, env, mh, R, (OG.bind (rel := RvOk J.T) o).mono fun v H1 ⟨w1, rv, mh1, _, x1, R1, r1, o1⟩ => ?_⟩
    refine ⟨w1, env, mh1, R.ext x1 R1, (OG.bind (rel := RvOk J.T) o1).mono fun u H2 ⟨w2, ru, mh2, _, x2, R2, r2, o2⟩ => ?_⟩
    split at o2
    · split at o2
      · rename_i xs ys e1 e2
        obtain ⟨k1, a1, vs1, rfl, h1⟩ := dv_seq (T := X.K) (x2.dv r1) e1
        obtain ⟨k2, a2, vs2, rfl, h2⟩ := dv_seq (T := X.K) r2 e2
        obtain ⟨s1, q1⟩ := h1 w2 H2 .refl
        obtain ⟨s2, q2⟩ := h2 w2 H2 .refl
        refine ⟨k1, k2, a1, a2, vs1, vs2, rfl, s1, s2, fun H' D ts old hD new hl hLD hts => ?_⟩
        have ex : Ext w2 H2 ⟨fun b => w2.F b ∨ b ∈ ts, w2.cs⟩ H' := {
          F := fun _ h => .inl h
          F' := fun b h => by
            rcases h with h | h
            · exact .inl h
            · exact .inr (.inl (new b h).1)
          cs := ⟨[], by simp⟩
          cs' := fun _ h => .inl h
          H := fun b o e _ => old b o e }
        have nF : ¬ w2.F D := fun z => by obtain ⟨o, e⟩ := R2.thF D z; rw [hD] at e; cases e
        have nC : D ∉ w2.cs := fun z => by obtain ⟨o, e⟩ := R2.thC D z; rw [hD] at e; cases e
        have th : ∀ t ∈ ts, ∃ o, H' t = some o := fun t ht => by
          obtain ⟨j, hj⟩ := List.getElem?_of_mem ht
          have hlt := (List.getElem?_eq_some_iff.mp hj).1
          obtain ⟨o, e, _⟩ := hts j t _ _ hj (List.getElem?_eq_getElem (by omega)) (List.getElem?_eq_getElem (by omega))
          exact ⟨_, e⟩
        have R' : RelH J.T ⟨fun b => w2.F b ∨ b ∈ ts, w2.cs⟩ mh2 H' := {
          len := R2.len
          nd := R2.nd
          thF := fun b h => by
            rcases h with h | h
            · obtain ⟨o, e⟩ := R2.thF b h
              exact ⟨o, old b o e⟩
            · exact th b h
          thC := fun b h => by
            obtain ⟨o, e⟩ := R2.thC b h
            exact ⟨o, old b o e⟩
          ok := fun n c b h1 h2 => (R2.ok n c b h1 h2).ext ex fun o e => old b o e
          live := fun n c b h1 h2 h3 h => by
            rcases h with h | h
            · exact R2.live n c b h1 h2 h3 h
            · obtain ⟨o, e⟩ := R2.thC b (List.mem_of_getElem? h2)
              rw [(new b h).1] at e; cases e }
        refine o2 _ _ H' ex R' ⟨D, _, rfl, rfl, x1.old R1 D (x2.old R2 D hD), nC, fun z => ?_, ts.map V.ref, hLD, ?_⟩
        · rcases z with z | z
          · exact nF z
          · exact (new D z).2 rfl
        · exact dvA_zip ts hl (fun t ht => .inr ht) hts (q1.mono (fun _ => .inl) fun b o _ e => old b o e) (q2.mono (fun _ => .inl) fun b o _ e => old b o e)
      · exact o2.elim
    · exact o2.elim
theorem me_rev {x : Expr} {a : E} {k : Nat} {p1 p2 p3 pos : Pos} (ha : PE X x (TEm J (evE C a))) : PE X (.Subscript x (.Slice none none (some (.UnaryOp .USub (.Constant (.int 1) k p1) p2)) p3) pos) (TEm J (evE C (.rev a))) :=
  PE.weak (pe_revL ha) fun σ H Q ⟨w, env, mh, R, o⟩ => by
    refine ⟨w, env, mh, R, (OG.bind (rel := RvOk J.T) o).mono fun v H1 ⟨w1, rv, mh1, _, x1, R1, r1, o1⟩ => ?_⟩
    split at o1
    · rename_i d h1
      cases d with
      | list ds =>
        obtain ⟨a1, vs, e1, g1, q1⟩ := (r1.view R1 h1).list
        refine ⟨a1, vs, e1, .inl g1, fun p hp => OG.newD (v := .ref p) o1 R1 (.new p _ hp (.lst (.inr rfl) (.inl upd_same) ?_))⟩
        exact q1.reverse.mono (fun _ => .inl) fun b u _ e => by rw [upd_ne (ne_of_none e hp)]; exact e
      | _ => exact o1.elim
    · exact o1.elim
end

/-! ### xs.remove(text) -/
def eqs (k : Str) (v : Value) : Bool := match v with
  | .str n _ => n.cps.toList == k.cps.toList
  | _ => false
theorem eqs_gives {k : Str} {t : Tok} : ∀ {vs : List V} {us : List Value}, Vals vs us → (∀ x ∈ vs, ∃ s, x = .str s) → ∀ y ∈ us, MeetsSeq.EqGives y (.str k t) (eqs k y)
  | _, _, .nil, _ => fun y hy => by cases hy
  | _, _, .cons r h, hs => fun y hy => by
    rcases List.mem_cons.mp hy with e | e
    · obtain ⟨s, rfl⟩ := hs _ List.mem_cons_self
      obtain ⟨t', rfl⟩ := r
      rw [e]
      exact SeqRoads2.EqGives.str s k t' t
    · exact eqs_gives h (fun x hx => hs x (List.mem_cons_of_mem _ hx)) y e
section
variable {X : Cx}
def rRemS : V → List V → Hp → VK → Prop := fun x xs H Q => ∃ (l : Addr) (vs : List V) (k : Str) (j : Nat), x = .ref l ∧ xs = [.str k] ∧ H l = some (.lst vs) ∧ (∀ x ∈ vs, ∃ s, x = .str s) ∧ vs[j]? = some (.str k) ∧ (∀ m : Nat, m < j → vs[m]? ≠ some (.str k)) ∧ Q .non (upd H l (.lst (vs.eraseIdx j)))
theorem mt_removeS : MtM X "list.remove" rRemS := by
  intro pins s σ H x xs v us Q I rx rxs h
  obtain ⟨l, vs, k, j, rfl, rfl, hH, hs, hj, hno, q⟩ := h
  cases rx
  obtain ⟨u, rfl, ru⟩ := rxs.one
  obtain ⟨t, rfl⟩ := ru
  obtain ⟨z, its, n, r, hl, e⟩ := I.lstM hH
  have hjn : j < vs.length := (List.getElem?_eq_some_iff.mp hj).1
  have hjl : j < its.toArray.size := by rw [List.size_toArray]; omega
  refine call_meets PySem.F.slot_list_remove ⟨_, e, rfl⟩ PySem.F.entry_list_remove (PySem.F.args_list_remove_2 _ _)
    (MeetsSeq.list_remove l its.toArray n (.str k t) (eqs k) (fun y hy => eqs_gives r hs y (by simpa using hy)) j hjl ?_ ?_ (by rw [List.size_toArray]; omega)) ⟨e, ?_⟩
  · obtain ⟨y, hy, ry⟩ := r.get hj
    obtain ⟨tj, rfl⟩ := ry
    obtain ⟨h1, h2⟩ := List.getElem?_eq_some_iff.mp hy
    have e1 : its.toArray[j] = .str k tj := by simpa using h2
    rw [e1]
    show (k.cps.toList == k.cps.toList) = true
    simp
  · intro m hm hmj
    have hmn : m < vs.length := by omega
    obtain ⟨y, hy, ry⟩ := r.get (List.getElem?_eq_getElem hmn)
    obtain ⟨sm, hsm⟩ := hs _ (List.getElem_mem hmn)
    rw [hsm] at ry
    obtain ⟨tm, rfl⟩ := ry
    obtain ⟨h1, h2⟩ := List.getElem?_eq_some_iff.mp hy
    have e1 : its.toArray[m] = .str sm tm := by simpa using h2
    rw [e1]
    refine beq_eq_false_iff_ne.mpr fun e2 => hno m hmj ?_
    rw [List.getElem?_eq_getElem hmn, hsm]
    have : sm = k := by
      cases sm with
      | mk a => cases k with
        | mk b =>
          have : a = b := by
            have := congrArg List.toArray e2
            simpa using this
          rw [this]
    rw [this]
  · refine ⟨.non, _, I.lset (its' := its.eraseIdx j) (t' := s.toks) hH e ?_ (r.eraseIdx j) ?_, rfl, q⟩
    · show its.toArray.eraseIdxIfInBounds j = (its.eraseIdx j).toArray
      rw [List.eraseIdxIfInBounds_toArray]
    · have := List.length_eraseIdx_le vs j
      omega
end
end Mn
end
section
set_option linter.all false
set_option autoImplicit false
set_option maxRecDepth 100000
/-! Mini: rules for statements. -/
namespace Mn
open PySem PySem.Spec PyProof.Rows L2

/-- what follows a statement -/
def SG (J : Jd) (w : Wd) (H : Hp) (o : SO) (D : Ends) : Prop := match o with
  | .next env mh => ∀ w' σ' H', FKeep w H w' H' → Rel J.T J.B w' env mh σ' H' → D.nx σ' H'
  | .brk env mh => ∀ w' σ' H', FKeep w H w' H' → Rel J.T J.B w' env mh σ' H' → D.bk σ' H'
  | .cont env mh => ∀ w' σ' H', FKeep w H w' H' → Rel J.T J.B w' env mh σ' H' → D.ct σ' H'
  | .ret rv mh => ∀ w' v H', Ext J.B.w J.B.H w' H' → RelH J.T w' mh H' → RvN J.T J.B.H w' H' v rv → D.rt v H'
  | .exc x env mh => ∀ w' σ' cls d H', FKeep w H w' H' → Rel J.T J.B w' env mh σ' H' → XOk J.T w'.F H' cls d x.c x.arg → J.W cls d σ' H'
  | .stuck => False
def TSm (J : Jd) (m : MEnv → MH → SO) : TS := fun D σ H => ∃ w env mh, Rel J.T J.B w env mh σ H ∧ SG J w H (m env mh) D
section
variable {J : Jd} {w w1 : Wd} {env : MEnv} {mh : MH} {σ : L2.St} {H H1 : Hp} {D : Ends}
theorem SG.later {o : SO} (k : FKeep w H w1 H1) (h : SG J w H o D) : SG J w1 H1 o D := by
  cases o with
  | next env mh => exact fun w' σ' H' x r => h w' σ' H' (k.trans x) r
  | brk env mh => exact fun w' σ' H' x r => h w' σ' H' (k.trans x) r
  | cont env mh => exact fun w' σ' H' x r => h w' σ' H' (k.trans x) r
  | ret rv mh => exact h
  | exc x env mh => exact fun w' σ' c d H' x r q => h w' σ' c d H' (k.trans x) r q
  | stuck => exact h
theorem SG.mono {o : SO} {D' : Ends} (h : SG J w H o D) (n : ∀ σ H, D.nx σ H → D'.nx σ H) (r : ∀ v H, D.rt v H → D'.rt v H) (b : ∀ σ H, D.bk σ H → D'.bk σ H) (c : ∀ σ H, D.ct σ H → D'.ct σ H) : SG J w H o D' := by
  cases o with
  | next env mh => exact fun w' σ' H' x q => n _ _ (h w' σ' H' x q)
  | brk env mh => exact fun w' σ' H' x q => b _ _ (h w' σ' H' x q)
  | cont env mh => exact fun w' σ' H' x q => c _ _ (h w' σ' H' x q)
  | ret rv mh => exact fun w' v H' x q z => r _ _ (h w' v H' x q z)
  | exc x env mh => exact h
  | stuck => exact h
theorem SG.next (h : SG J w H (.next env mh) D) {w' : Wd} {H' : Hp} (k : FKeep w H w' H') (R : Rel J.T J.B w' env mh σ H') : D.nx σ H' := h w' σ H' k R
/-- an expression ahead of a statement -/
theorem SG.of {α β : Type} {rel : Wd → Hp → β → α → Prop} {k : α → MH → SO} {o : Out α} (R : Rel J.T J.B w env mh σ H) (h : SG J w H (SO.of env k o) D) :
    OG J.T rel (fun c d H' => J.W c d σ H') w H o (fun b H1 => ∃ w1 a mh1, Ext w H w1 H1 ∧ RelH J.T w1 mh1 H1 ∧ rel w1 H1 b a ∧ SG J w1 H1 (k a mh1) D) := by
  cases o with
  | ok a mh1 => exact fun w' b H' x r q => ⟨w', a, mh1, x, r, q, SG.later x.fk h⟩
  | exc y mh1 => exact fun w' c d H' x r q => h w' σ c d H' x.fk (R.ext x r) q
  | stuck => exact h
theorem SG.then {o : SO} {k : MEnv → MH → SO} (h : SG J w H (o.then k) D) : SG J w H o { D with nx := TSm J k D } := by
  cases o with
  | next env mh => exact fun w' σ' H' x r => ⟨w', env, mh, r, SG.later x h⟩
  | brk env mh => exact h
  | cont env mh => exact h
  | ret rv mh => exact h
  | exc x env mh => exact h
  | stuck => exact h
/-- a turn of a loop -/
theorem SG.turn {o : SO} {k : MEnv → MH → SO} (h : SG J w H (o.turn k) D) :
    SG J w H o { D with nx := fun σ' H' => ∃ w' env mh, FKeep w H w' H' ∧ Rel J.T J.B w' env mh σ' H' ∧ SG J w' H' (k env mh) D, ct := fun σ' H' => ∃ w' env mh, FKeep w H w' H' ∧ Rel J.T J.B w' env mh σ' H' ∧ SG J w' H' (k env mh) D, bk := D.nx } := by
  cases o with
  | next env mh => exact fun w' σ' H' x r => ⟨w', env, mh, x, r, SG.later x h⟩
  | cont env mh => exact fun w' σ' H' x r => ⟨w', env, mh, x, r, SG.later x h⟩
  | brk env mh => exact h
  | ret rv mh => exact h
  | exc x env mh => exact h
  | stuck => exact h
end

section
variable {X : Cx} {J : Jd} {C : CallF}
theorem mss_nil : PSs X [] (TSm J (evSs C .nil)) := PSs.weak pss_nil fun D σ H ⟨w, env, mh, R, o⟩ => o.next .refl R
theorem mss_cons {s : S} {r : Ss} {x : Stmt} {xs : List Stmt} (h1 : PS X x (TSm J (evS C s))) (h2 : PSs X xs (TSm J (evSs C r))) : PSs X (x :: xs) (TSm J (evSs C (.cons s r))) :=
  PSs.weak (pss_cons h1 h2) fun D σ H ⟨w, env, mh, R, o⟩ => ⟨w, env, mh, R, SG.then (k := fun env mh => evSs C r env mh) o⟩
theorem mss_never {xs : List Stmt} {r : Ss} : PSs X xs (TSm J (evSs C (.cons .nv r))) := PSs.weak pss_never fun D σ H ⟨w, env, mh, R, o⟩ => o.elim
theorem ms_never {x : Stmt} : PS X x (TSm J (evS C .nv)) := PS.weak ps_never fun D σ H ⟨w, env, mh, R, o⟩ => o.elim
theorem ms_pass {pos : Pos} : PS X (.Pass pos) (TSm J (evS C .pass)) := PS.weak ps_pass fun D σ H ⟨w, env, mh, R, o⟩ => o.next .refl R
theorem ms_brk {pos : Pos} : PS X (.Break pos) (TSm J (evS C .brk)) := PS.weak ps_break fun D σ H ⟨w, env, mh, R, o⟩ => o w σ H .refl R
theorem ms_cont {pos : Pos} : PS X (.Continue pos) (TSm J (evS C .cont)) := PS.weak ps_continue fun D σ H ⟨w, env, mh, R, o⟩ => o w σ H .refl R
theorem ms_expr {e : E} {x : Expr} {pos : Pos} (he : PE X x (TEm J (evE C e))) (hs : swapsWith x none pos.line X.env = pure false) : PS X (.Expr x pos) (TSm J (evS C (.expr e))) :=
  PS.weak (ps_expr he hs) fun D σ H ⟨w, env, mh, R, o⟩ => ⟨w, env, mh, R, (SG.of (rel := RvOk J.T) R o).mono fun v H1 ⟨w1, a, mh1, x1, R1, r1, o1⟩ => o1.next .refl (R.ext x1 R1)⟩
theorem ms_retN {pos : Pos} : PS X (.Return none pos) (TSm J (evS C .retN)) := PS.weak ps_retN fun D σ H ⟨w, env, mh, R, o⟩ => o w .non H R.x R.h ⟨.non, fun h => by cases h⟩
theorem ms_if {c : E} {a b : Ss} {x : Expr} {xs ys : List Stmt} {pos : Pos} (hc : PT X x (TTm J (evT C c))) (ha : PSs X xs (TSm J (evSs C a))) (hb : PSs X ys (TSm J (evSs C b))) : PS X (.If x xs ys pos) (TSm J (evS C (.if_ c a b))) :=
  PS.weak (ps_if hc ha hb) fun D σ H ⟨w, env, mh, R, o⟩ => by
    refine ⟨w, env, mh, R, (SG.of (rel := relB) R o).mono fun v H1 ⟨w1, t, mh1, x1, R1, r1, o1⟩ => ?_⟩
    cases (show v = t from r1)
    cases v with
    | true => rw [if_pos rfl]; exact ⟨w1, env, mh1, R.ext x1 R1, o1⟩
    | false => rw [if_neg (by simp)]; exact ⟨w1, env, mh1, R.ext x1 R1, o1⟩

/-! ### assignments -/
/-- a value is evaluated, then stored -/
def AsgOk (X : Cx) (t x : Expr) (pos : Pos) (te : TE) (g : TG) : Prop := PS X (.Assign [t] x pos) (tAsg te g)
theorem tAsg_weak {t x : Expr} {pos : Pos} {te te' : TE} {g : TG} (h : AsgOk X t x pos te g) (k : ∀ σ H Q, te' σ H Q → te σ H Q) : AsgOk X t x pos te' g := PS.weak h fun D σ H q => k _ _ _ q
theorem Rel.fk {T : Stat} {B : Base} {w : Wd} {env : MEnv} {mh : MH} {σ : L2.St} {H : Hp} (_ : Rel T B w env mh σ H) : FKeep w H w H := .refl
theorem ms_asgN {e : E} {i : Nat} {t x : Expr} {pos : Pos} (h : AsgOk X t x pos (TEm J (evE C e)) (gName i)) : PS X (.Assign [t] x pos) (TSm J (evS C (.asg (.nm i) e))) :=
  PS.weak h fun D σ H ⟨w, env, mh, R, o⟩ => by
    refine ⟨w, env, mh, R, (SG.of (rel := RvOk J.T) R o).mono fun v H1 ⟨w1, rv, mh1, x1, R1, r1, o1⟩ => ?_⟩
    have R' := R.ext x1 R1
    cases rv with
    | dat d =>
      have o1 : SG J w1 H1 (match (if i < env.length then some (env.set i (some (.dat d))) else none) with
        | some env' => .next env' mh1
        | none => .stuck) D := o1
      split at o1
      · rename_i env' he
        split at he
        · cases he
          exact o1.next .refl (R'.setD r1 rfl)
        · cases he
      · exact o1.elim
    | ref n =>
      have o1 : SG J w1 H1 (if i < env.length then .next (env.set i (some (.ref n))) mh1 else .stuck) D := o1
      split at o1
      · exact o1.next .refl (R'.setD r1 rfl)
      · exact o1.elim
    | _ => exact o1.elim
theorem ms_asgT {e : E} {tg : Tg} {t x : Expr} {pos : Pos} (ht : tg.seq = true) (h : AsgOk X t x pos (TEm J (evE C e)) (TGm J tg)) : PS X (.Assign [t] x pos) (TSm J (evS C (.asg tg e))) :=
  PS.weak h fun D σ H ⟨w, env, mh, R, o⟩ => by
    refine ⟨w, env, mh, R, (SG.of (rel := RvOk J.T) R o).mono fun v H1 ⟨w1, rv, mh1, x1, R1, r1, o1⟩ => ?_⟩
    have R' := R.ext x1 R1
    cases rv with
    | dat d =>
      have o1 : SG J w1 H1 (match bindT tg d env with
        | some env' => .next env' mh1
        | none => .stuck) D := o1
      cases he : bindT tg d env with
      | none => rw [he] at o1; exact o1.elim
      | some env' =>
        rw [he] at o1
        exact ⟨w1, env, d, env', mh1, R', .of r1, he, fun σ' R2 _ => o1.next .refl R2⟩
    | _ => cases tg with
      | nm i => cases ht
      | _ => exact o1.elim
/-- a value of its own gets a name -/
theorem FreshAt.own {T : Stat} {w : Wd} {H : Hp} {a : Addr} {d : PyData} {e : E} {r : RV} (h : FreshAt T.g w H a d) (hr : freshV e (.dat d) = some r) : RvOk T w H (.ref a) r ∧ r.own = true := by
  unfold freshV at hr
  cases d with
  | list ds =>
    have hr : (if isFresh e then some (RV.olst ds) else none) = some r := hr
    split at hr
    · cases hr
      obtain ⟨h1, h2, xs, h3, h4⟩ := h
      exact ⟨⟨a, xs, rfl, h3, h4, h1, h2⟩, rfl⟩
    · cases hr
  | dict ps =>
    have hr : (if isFresh e then some (RV.odct ps) else none) = some r := hr
    split at hr
    · cases hr
      obtain ⟨h1, h2, h3⟩ := h
      exact ⟨⟨a, rfl, h3, h1, h2⟩, rfl⟩
    · cases hr
  | _ => cases hr
theorem own_ref {T : Stat} {w : Wd} {H : Hp} {v : V} {r : RV} (h : RvOk T w H v r) (ho : r.own = true) : ∃ a o, v = .ref a ∧ H a = some o ∧ a ∉ w.cs ∧ ¬ w.F a := by
  cases r with
  | olst ds => obtain ⟨a, xs, e, h1, _, h3, h4⟩ := h; exact ⟨a, _, e, h1, h3, h4⟩
  | odct ps =>
    obtain ⟨a, e, h1, h3, h4⟩ := h
    rcases h1 with ⟨kvs, h1, _⟩ | ⟨kvs, h1, _⟩
    · exact ⟨a, _, e, h1, h3, h4⟩
    · exact ⟨a, _, e, h1, h3, h4⟩
  | _ => cases ho
/-- the results that a name may own: made by the expression e, or moved out of a call -/
theorem freshV_of {T : Stat} {H₀ : Hp} {w : Wd} {H : Hp} {v : V} {rv r : RV} {e : E} (h : relF T H₀ w H v rv ∨ (isFresh e = false ∧ RvN T H₀ w H v rv)) (hr : freshV e rv = some r) : ∃ a, v = .ref a ∧ H₀ a = none ∧ RvOk T w H v r ∧ r.own = true := by
  rcases h with ⟨a, d, rfl, rfl, hn, hf⟩ | ⟨hf, h, hn⟩
  · obtain ⟨h1, h2⟩ := hf.own hr
    exact ⟨a, rfl, hn, h1, h2⟩
  · unfold freshV at hr
    cases rv with
    | dat d => cases d <;> first | (rw [hf] at hr; cases hr) | cases hr
    | olst xs =>
      have hr : (if isCall e then some (RV.olst xs) else none) = some r := hr
      split at hr
      · cases hr
        obtain ⟨a, o, rfl, _⟩ := own_ref h rfl
        exact ⟨a, rfl, hn rfl a rfl, h, rfl⟩
      · cases hr
    | odct xs =>
      have hr : (if isCall e then some (RV.odct xs) else none) = some r := hr
      split at hr
      · cases hr
        obtain ⟨a, o, rfl, _⟩ := own_ref h rfl
        exact ⟨a, rfl, hn rfl a rfl, h, rfl⟩
      · cases hr
    | _ => cases hr
/-- an expression whose value may be owned -/
def TEo (J : Jd) (C : CallF) (e : E) : TE := if isFresh e then TEf J (evE C e) else TEc J (evE C e)
theorem TEo.run {e : E} {σ : L2.St} {H : Hp} {Q : VK} {w : Wd} {env : MEnv} {mh : MH} (R : Rel J.T J.B w env mh σ H) (o : OG J.T (fun w' H' v rv => relF J.T H w' H' v rv ∨ (isFresh e = false ∧ RvN J.T H w' H' v rv)) (fun c d H' => J.W c d σ H') w H (evE C e env mh) Q) : TEo J C e σ H Q := by
  unfold TEo
  split
  · exact ⟨w, env, mh, R, o.rel fun _ _ _ _ _ q => .inl q⟩
  · rename_i h
    exact ⟨w, env, mh, R, o.rel fun _ _ _ _ _ q => .inr ⟨by simpa using h, q⟩⟩
theorem Rel.own_new {T : Stat} {B : Base} {w : Wd} {env : MEnv} {mh : MH} {σ : L2.St} {H : Hp} {a : Addr} (R : Rel T B w env mh σ H) (hn : H a = none) : B.H a = none ∧ ∀ (j : Nat) (rv' : RV), env[j]? = some (some rv') → rv'.own = true → σ[j]? = some (some (V.ref a)) → False := by
  refine ⟨R.x.old R.h a hn, fun j rv' h1 h2 h3 => ?_⟩
  obtain ⟨v, e, r⟩ := R.e.ok j rv' h1
  rw [h3] at e; cases e
  obtain ⟨b, o, e, h4, _⟩ := own_ref r h2
  cases e
  rw [hn] at h4; cases h4
theorem ms_asgO {e : E} {i : Nat} {t x : Expr} {pos : Pos} (h : AsgOk X t x pos (TEo J C e) (gName i)) : PS X (.Assign [t] x pos) (TSm J (evS C (.asgO i e))) :=
  PS.weak h fun D σ H ⟨w, env, mh, R, o⟩ => TEo.run R ((SG.of R o).mono fun v H1 ⟨w1, rv, mh1, x1, R1, r1, o1⟩ => by
    have R' := R.ext x1 R1
    split at o1
    · rename_i r hr
      obtain ⟨a, rfl, hn, h1, h2⟩ := freshV_of r1 hr
      obtain ⟨n1, n2⟩ := R.own_new hn
      unfold setN at o1
      split at o1
      · exact o1.next .refl (R'.setG h1 fun _ b e => by cases e; exact ⟨n1, fun j rv' _ => n2 j rv'⟩)
      · exact o1.elim
    · exact o1.elim)
theorem Ext.addC {w w' : Wd} {H H' : Hp} {a : Addr} (x : Ext w H w' H') (hn : H a = none) : Ext w H ⟨w'.F, w'.cs ++ [a]⟩ H' where
  F := x.F
  F' := x.F'
  cs := let ⟨t, e⟩ := x.cs; ⟨t ++ [a], by rw [e, List.append_assoc]⟩
  cs' := fun b h => by
    rcases List.mem_append.mp h with h | h
    · exact x.cs' b h
    · rw [List.mem_singleton.mp h]; exact .inr hn
  H := x.H
theorem FsOk.addC {T : Stat} {w : Wd} {H : Hp} {a : Addr} : ∀ {fs : List (Str × V)} {gs : List (Nat × RV)}, FsOk T w H fs gs → FsOk T ⟨w.F, w.cs ++ [a]⟩ H fs gs
  | _, _, .nil => .nil
  | _, _, .dat r t => .dat r t.addC
  | _, _, .ref r t => .ref (by rw [List.getElem?_append_left (List.getElem?_eq_some_iff.mp r).1]; exact r) t.addC
theorem CellOk.addC {T : Stat} {w : Wd} {H : Hp} {a b : Addr} {c : Cell} (h : CellOk T w H b c) : CellOk T ⟨w.F, w.cs ++ [a]⟩ H b c := by
  cases c with
  | ins c fs => obtain ⟨dx, hfs, h1, h2, h3⟩ := h; exact ⟨dx, hfs, h1, h2.addC, h3⟩
  | _ => exact h
theorem RelH.addC {T : Stat} {w : Wd} {mh : MH} {H : Hp} {a : Addr} {c : Cell} {o : HO} (R : RelH T w mh H) (hc : a ∉ w.cs) (hF : ¬ w.F a) (ha : H a = some o) (new : CellOk T w H a c) : RelH T ⟨w.F, w.cs ++ [a]⟩ (mh ++ [c]) H where
  len := by rw [List.length_append, List.length_append, R.len]; rfl
  nd := List.nodup_append.mpr ⟨R.nd, by simp, fun x hx y hy => by rw [List.mem_singleton.mp hy]; exact fun e => hc (e ▸ hx)⟩
  thF := R.thF
  thC := fun b h => by
    rcases List.mem_append.mp h with h | h
    · exact R.thC b h
    · rw [List.mem_singleton.mp h]; exact ⟨o, ha⟩
  ok := fun n c' b h1 h2 => by
    by_cases hn : n < mh.length
    · rw [List.getElem?_append_left hn] at h1
      rw [List.getElem?_append_left (by rw [← R.len]; exact hn)] at h2
      exact (R.ok n c' b h1 h2).addC
    · rw [List.getElem?_append_right (by omega)] at h1
      rw [List.getElem?_append_right (by rw [← R.len]; omega), ← R.len] at h2
      cases hk : n - mh.length with
      | zero =>
        rw [hk] at h1 h2
        cases h1; cases h2
        exact new.addC
      | succ k => rw [hk] at h1; simp at h1
  live := fun n c' b h1 h2 h3 => by
    by_cases hn : n < mh.length
    · rw [List.getElem?_append_left hn] at h1
      rw [List.getElem?_append_left (by rw [← R.len]; exact hn)] at h2
      exact R.live n c' b h1 h2 h3
    · rw [List.getElem?_append_right (by omega)] at h1
      rw [List.getElem?_append_right (by rw [← R.len]; omega), ← R.len] at h2
      cases hk : n - mh.length with
      | zero => rw [hk] at h2; cases h2; exact hF
      | succ k => rw [hk] at h1; simp at h1
theorem own_cell {T : Stat} {w : Wd} {H : Hp} {a : Addr} {r : RV} (h : RvOk T w H (.ref a) r) (ho : r.own = true) : CellOk T w H a (toCell r) := by
  cases r with
  | olst ds => obtain ⟨b, xs, e, h1, h2, _⟩ := h; cases e; exact ⟨xs, h1, h2⟩
  | odct ps => obtain ⟨b, e, h1, _⟩ := h; cases e; exact h1
  | _ => cases ho
theorem ms_asgH {e : E} {i : Nat} {t x : Expr} {pos : Pos} (h : AsgOk X t x pos (TEo J C e) (gName i)) : PS X (.Assign [t] x pos) (TSm J (evS C (.asgH i e))) :=
  PS.weak h fun D σ H ⟨w, env, mh, R, o⟩ => TEo.run R ((SG.of R o).mono fun v H1 ⟨w1, rv, mh1, x1, R1, r1, o1⟩ => by
    split at o1
    · rename_i r hr
      obtain ⟨a, rfl, hn, h1, h2⟩ := freshV_of r1 hr
      obtain ⟨b, ob, e, h3, h4, h5⟩ := own_ref h1 h2
      cases e
      have R2 := R1.addC h4 h5 h3 (own_cell h1 h2)
      have R' := R.ext (x1.addC hn) R2
      unfold setN at o1
      split at o1
      · refine o1.next (w' := ⟨w1.F, w1.cs ++ [a]⟩) ⟨fun _ h => h, fun _ _ _ h => h⟩ (R'.setD (v := .ref a) (rv := .ref mh1.length) ⟨a, rfl, ?_⟩ rfl)
        show (w1.cs ++ [a])[mh1.length]? = some a
        rw [List.getElem?_append_right (by rw [R1.len]; exact Nat.le_refl _), R1.len, Nat.sub_self]
        rfl
      · exact o1.elim
    · exact o1.elim)
end
end Mn
end
section
set_option linter.all false
set_option autoImplicit false
set_option maxRecDepth 100000
/-! Mini: rules for statements: writes, loops, ends. -/
namespace Mn
open PySem PySem.Spec PyProof.Rows L2

section
variable {T : Stat} {B : Base} {w : Wd} {env : MEnv} {mh : MH} {σ : L2.St} {H : Hp}
theorem RvOk.over {v : V} {rv : RV} {a : Addr} {o : HO} (h : RvOk T w H v rv) (hF : ¬ w.F a) (hn : rv.own = true → v ≠ .ref a) : RvOk T w (upd H a o) v rv := by
  cases rv with
  | dat d => exact Dv.over h hF
  | ref n => exact h
  | olst ds =>
    obtain ⟨b, xs, rfl, h1, h2, h3, h4⟩ := h
    exact ⟨b, xs, rfl, by rw [upd_ne fun e => hn rfl (by rw [e])]; exact h1, h2.over hF, h3, h4⟩
  | odct ps =>
    obtain ⟨b, rfl, h1, h3, h4⟩ := h
    have hb : b ≠ a := fun e => hn rfl (by rw [e])
    refine ⟨b, rfl, ?_, h3, h4⟩
    rcases h1 with ⟨kvs, h1, h2⟩ | ⟨kvs, h1, h2⟩
    · exact .inl ⟨kvs, by rw [upd_ne hb]; exact h1, h2.over hF⟩
    · exact .inr ⟨kvs, by rw [upd_ne hb]; exact h1, h2.over hF⟩
  | xcp c arg =>
    obtain ⟨b, cls, d, rfl, h1, h2, h3⟩ := h
    refine ⟨b, cls, d, rfl, h1, h2, ?_⟩
    cases arg with
    | none => exact h3
    | some x =>
      obtain ⟨p, u, e, f, hp, r⟩ := h3
      exact ⟨p, u, e, f, by rw [upd_ne (ne_F f hF)]; exact hp, r.over hF⟩
/-- the list or dict that a name owns is written -/
theorem Rel.over {i : Nat} {rv rv' : RV} {a : Addr} {o : HO} (R : Rel T B w env mh σ H) (h : env[i]? = some (some rv)) (ho : rv.own = true) (hs : σ[i]? = some (some (V.ref a))) (hF : ¬ w.F a) (hC : a ∉ w.cs) (new : RvOk T w (upd H a o) (.ref a) rv') (ho' : rv'.own = true) :
    Rel T B w (env.set i (some rv')) mh σ (upd H a o) where
  h := R.h.over hC hF
  x := R.x.over (R.own i rv a h ho hs)
  e := {
    len := by rw [List.length_set]; exact R.e.len
    ok := fun j r hj => by
      rcases set_get hj with ⟨rfl, e⟩ | ⟨hne, hj'⟩
      · cases e; exact ⟨_, hs, new⟩
      · obtain ⟨v, e, q⟩ := R.e.ok j r hj'
        refine ⟨v, e, q.over hF fun q1 q2 => ?_⟩
        subst q2
        exact R.e.own j i r rv a hne hj' h q1 ho e hs
    own := fun j k r1 r2 b hjk h1 h2 o1 o2 s1 s2 => by
      rcases set_get h1 with ⟨e1, e1'⟩ | ⟨n1, h1'⟩
      · subst e1
        rcases set_get h2 with ⟨e2, e2'⟩ | ⟨n2, h2'⟩
        · exact hjk e2.symm
        · exact R.e.own j k rv r2 b hjk h h2' ho o2 s1 s2
      · rcases set_get h2 with ⟨e2, e2'⟩ | ⟨n2, h2'⟩
        · subst e2
          exact R.e.own j k r1 rv b hjk h1' h o1 ho s1 s2
        · exact R.e.own j k r1 r2 b hjk h1' h2' o1 o2 s1 s2 }
  own := fun j r b hj o1 s1 => by
    rcases set_get hj with ⟨e1, _⟩ | ⟨_, hj'⟩
    · subst e1; exact R.own j rv b h ho s1
    · exact R.own j r b hj' o1 s1
/-- a cell is written -/
theorem Rel.write {n : Nat} {a : Addr} {o : HO} {c : Cell} (R : Rel T B w env mh σ H) (hc : w.cs[n]? = some a) (hF : ¬ w.F a) (new : CellOk T w (upd H a o) a c) : Rel T B w env (mh.set n c) σ (upd H a o) where
  h := R.h.write hc hF new
  x := R.x.trans (Ext.write (List.mem_of_getElem? hc) hF)
  e := {
    len := R.e.len
    ok := fun j r hj => by
      obtain ⟨v, e, q⟩ := R.e.ok j r hj
      refine ⟨v, e, q.over hF fun q1 q2 => ?_⟩
      obtain ⟨b, ob, e2, _, h3, _⟩ := own_ref q q1
      rw [q2] at e2; cases e2
      exact h3 (List.mem_of_getElem? hc)
    own := R.e.own }
  own := R.own
theorem over_fk {a : Addr} {o : HO} (hF : ¬ w.F a) : FKeep w H w (upd H a o) := ⟨fun _ h => h, fun b u f e => by rw [upd_ne (ne_F f hF)]; exact e⟩
/-- the address of a list or dict that may be written -/
structure At (T : Stat) (B : Base) (w : Wd) (env : MEnv) (mh : MH) (σ : L2.St) (H : Hp) (i : Nat) (a : Addr) (c : PyData) (f : PyData → Option PyData) (D : Ends) (J : Jd) : Prop where
  wr : ∀ (o : HO) (c' : PyData), f c = some c' → (match c' with
      | .list ys => ∃ xs, o = .lst xs ∧ DvA T.g w.F H xs ys
      | .dict ps => ∃ kvs, o = .dK kvs ∧ DvK T.g w.F H kvs ps
      | _ => False) → D.nx σ (upd H a o)
theorem upR_at {J : Jd} {D : Ends} {i : Nat} {f : PyData → Option PyData} (R : Rel J.T J.B w env mh σ H) (o : SG J w H (upR i f env mh) D) (hl : ∀ c c', f c = some c' → (∃ xs ys, c = .list xs ∧ c' = .list ys) ∨ ∃ xs ys, c = .dict xs ∧ c' = .dict ys) :
    ∃ a c c', σ[i]? = some (some (V.ref a)) ∧ f c = some c' ∧ (match c with
      | .list ds => ∃ xs, H a = some (.lst xs) ∧ DvA J.T.g w.F H xs ds
      | .dict ps => (∃ kvs, H a = some (.dK kvs) ∧ DvK J.T.g w.F H kvs ps) ∨ ∃ kvs, H a = some (TD J.T.g a kvs) ∧ DvT J.T.g w.F H kvs ps
      | _ => False) ∧ ¬ w.F a ∧ ∀ (ob : HO), (match c' with
      | .list ys => ∃ xs, ob = .lst xs ∧ DvA J.T.g w.F H xs ys
      | .dict ps => ∃ kvs, ob = .dK kvs ∧ DvK J.T.g w.F H kvs ps
      | _ => False) → D.nx σ (upd H a ob) := by
  unfold upR at o
  split at o
  · rename_i xs he
    obtain ⟨v, hs, a, vs, rfl, h1, h2, h3, h4⟩ := R.e.ok i _ he
    split at o
    · rename_i ys hf
      refine ⟨a, _, _, hs, hf, ⟨vs, h1, h2⟩, h4, fun ob ⟨us, e, q⟩ => ?_⟩
      subst e
      exact o.next (over_fk h4) (R.over he rfl hs h4 h3 (rv' := .olst ys) ⟨a, us, rfl, upd_same, q.over h4, h3, h4⟩ rfl)
    · exact o.elim
  · rename_i ps he
    obtain ⟨v, hs, a, rfl, h1, h3, h4⟩ := R.e.ok i _ he
    split at o
    · rename_i qs hf
      refine ⟨a, _, _, hs, hf, h1, h4, fun ob ⟨us, e, q⟩ => ?_⟩
      subst e
      exact o.next (over_fk h4) (R.over he rfl hs h4 h3 (rv' := .odct qs) ⟨a, rfl, .inl ⟨us, upd_same, q.over h4⟩, h3, h4⟩ rfl)
    · exact o.elim
  · rename_i n he
    obtain ⟨v, hs, a, rfl, hc⟩ := R.e.ok i _ he
    split at o
    · rename_i xs hn
      obtain ⟨vs, h1, h2⟩ := R.h.ok n _ a hn hc
      have hF := R.h.live n _ a hn hc rfl
      split at o
      · rename_i ys hf
        refine ⟨a, _, _, hs, hf, ⟨vs, h1, h2⟩, hF, fun ob ⟨us, e, q⟩ => ?_⟩
        subst e
        exact o.next (over_fk hF) (R.write hc hF ⟨us, upd_same, q.over hF⟩)
      · exact o.elim
    · rename_i ps hn
      have h1 := R.h.ok n _ a hn hc
      have hF := R.h.live n _ a hn hc rfl
      split at o
      · rename_i qs hf
        refine ⟨a, _, _, hs, hf, h1, hF, fun ob ⟨us, e, q⟩ => ?_⟩
        subst e
        exact o.next (over_fk hF) (R.write hc hF (.inl ⟨us, upd_same, q.over hF⟩))
      · exact o.elim
    · exact o.elim
  · exact o.elim
end

section
variable {X : Cx} {J : Jd} {C : CallF}
theorem ms_app {i : Nat} {e : E} {x : Str} {v : Expr} {p apos cpos pos : Pos} (hN : X.N[i]? = some x) (hv : Vis X.env.scope x) (hd : (x == ("__debug__" : Str)) = false) (hcd : (x == ("__classdict__" : Str)) = false)
    (he : PE X v (TEm J (evE C e))) (hp : plainX v = true) (hline : (apos.endLine == cpos.line) = true) : PS X (.Expr (.Call (.Attribute (.Name x p) "append" apos) [v] [] cpos) pos) (TSm J (evS C (.app i e))) := by
  refine PS.weak (ps_expr (pe_bmG PySem.F.plainAttrs_list PySem.F.slot_list_append PySem.F.type_list_append mt_append (pe_var hN hv hd hcd) (pa_cons he pa_nil (star_of hp)) rfl (by simp [hp]) (by simp) hline) rfl) fun D σ H ⟨w, env, mh, R, o⟩ => ?_
  have o : SG J w H (if lstAt env mh i then SO.of env (fun r mh => match r with
      | .dat d => upR i (appD d) env mh
      | _ => .stuck) (evE C e env mh) else .stuck) D := o
  split at o
  · rename_i hl
    have hat : ∃ a xs, σ[i]? = some (some (V.ref a)) ∧ H a = some (.lst xs) := by
      unfold lstAt at hl
      split at hl
      · rename_i ds he
        obtain ⟨v, hs, a, vs, rfl, h1, _⟩ := R.e.ok i _ he
        exact ⟨a, vs, hs, h1⟩
      · rename_i r hr he
        obtain ⟨n, xs, rfl, hn⟩ := isLstC_of hl
        obtain ⟨v, hs, a, rfl, hc⟩ := R.e.ok i _ he
        obtain ⟨vs, h1, _⟩ := R.h.ok n _ a hn hc
        exact ⟨a, vs, hs, h1⟩
      · cases hl
    obtain ⟨a, xs, hs, hH⟩ := hat
    refine ⟨.ref a, hs, ty_list (.inl hH), w, env, mh, R, (SG.of (rel := RvOk J.T) R o).mono fun v1 H1 ⟨w1, rv, mh1, x1, R1, r1, o1⟩ => ?_⟩
    cases rv with
    | dat d =>
      obtain ⟨a', c, c', hs', hf, h1, hF, hw⟩ := upR_at (R.ext x1 R1) o1 (fun c c' h => by
        unfold appD at h
        split at h
        · split at h
          · cases h; exact .inl ⟨_, _, rfl, rfl⟩
          · cases h
        · cases h)
      rw [hs] at hs'; cases hs'
      unfold appD at hf
      split at hf
      · rename_i ds
        split at hf
        · rename_i hb
          cases hf
          obtain ⟨vs, h2, h3⟩ := h1
          have hb := big_le hb
          have hl := h3.length
          exact ⟨a, vs, v1, rfl, rfl, h2, by omega, hw _ ⟨_, rfl, h3.append (.cons r1 .nil)⟩⟩
        · cases hf
      · cases hf
    | _ => exact o1.elim
  · exact o.elim

/-! ### x[k] = v -/
def rPutM (g : Pw) : TSet := fun o i v H Q => ∃ F a c k d c', o = .ref a ∧ (match c with
      | .list ds => ∃ xs, H a = some (.lst xs) ∧ DvA g F H xs ds
      | .dict ps => (∃ kvs, H a = some (.dK kvs) ∧ DvK g F H kvs ps) ∨ ∃ kvs, H a = some (TD g a kvs) ∧ DvT g F H kvs ps
      | _ => False) ∧ Dv g F H i k ∧ Dv g F H v d ∧ putC c k d = some c' ∧ ∀ (ob : HO), (match c' with
      | .list ys => ∃ xs, ob = .lst xs ∧ DvA g F H xs ys
      | .dict ps => ∃ kvs, ob = .dK kvs ∧ DvK g F H kvs ps
      | _ => False) → Q (upd H a ob)
theorem set_M {g : Pw} (hg : g = ⟨X.prog, X.w⟩) (hu : X.A.units + 200 < cLine) : PSet X (rPutM g) := by
  intro pins s σ H o i v ov iv u Q I ro ri rv h
  obtain ⟨F, a, c, k, d, c', rfl, hc, hi, hv, hp, hw⟩ := h
  cases c with
  | list ds =>
    obtain ⟨xs, h1, h2⟩ := hc
    cases k with
    | int z =>
      obtain ⟨j, hj, rfl⟩ := Option.map_eq_some_iff.mp (show (ixD ds.length z).map (fun j => PyData.list (ds.set j d)) = some c' from hp)
      cases hi
      exact set_list pins s σ H _ _ v ov iv u Q I ro ri rv ⟨a, xs, z, j, rfl, rfl, h1, by rw [h2.length]; exact hj, hw _ ⟨_, rfl, h2.set hv j⟩⟩
    | _ => cases hp
  | dict ps =>
    have hp : (if isKey1 k && ps.all (fun p => isKey1 p.1) && big (ps.length + 1) then some (PyData.dict (dput ps k d)) else none) = some c' := by
      revert hp
      cases k <;> exact fun z => z
    split at hp
    · rename_i hb
      cases hp
      rw [Bool.and_eq_true, Bool.and_eq_true] at hb
      obtain ⟨⟨hk, hall⟩, hb⟩ := hb
      have hb := big_le hb
      obtain ⟨key, rfl⟩ := isKey1_of hk
      have ei := keyV (.inl hi)
      subst ei
      cases (show ov = Value.ref a from ro)
      have core : ∀ {H' : Hp} {kvs : List (Key × V)}, Inv X pins σ H' s → H' a = some (.dK kvs) → DvK g F H kvs ps → (∀ o, upd H' a o = upd H a o) → wpAny (model X.prog X.w) X.A (setItem (.ref a) iv u) (fun _ s' => ∃ H', Inv X pins σ H' s' ∧ Q H') X.xe s := fun {H' kvs} I' e1 e2 e3 => by
        have hl := e2.length
        refine d_setItem (by omega) I' (DPut.k (k := key) (v := v) e1 (by omega)) ri rv fun s' I2 => ⟨_, I2, ?_⟩
        rw [e3]
        exact hw _ ⟨_, rfl, dvK_put key hv e2⟩
      rcases hc with ⟨kvs, h1, h2⟩ | ⟨kvs, h1, h2⟩
      · exact core I h1 h2 fun _ => rfl
      · obtain ⟨rfl, rfl⟩ := dvT_keys h2 hall
        obtain ⟨z1, z2⟩ := rdK_of hg I (.inl h1)
        have he : ∃ q, s.heap.get? a = some q := let ⟨q, _, _, hq, _⟩ := z2; ⟨q, hq⟩
        have I' : Inv X pins σ (upd H a (.dK [])) s := I.write (t' := s.toks) (e := a) (by rw [h1]; exact True.intro) (.inl rfl) (fun b u _ e => e) he ⟨Nat.zero_le _, z1, [], .nil, z2⟩
        exact core I' upd_same .nil fun o => upd_upd
    · cases hp
  | _ => exact hc.elim
theorem ms_setI {i : Nat} {k v : E} {x : Str} {kx vx : Expr} {p tpos pos : Pos} (hg : J.T.g = ⟨X.prog, X.w⟩) (hu : X.A.units + 200 < cLine) (hN : X.N[i]? = some x) (hvs : Vis X.env.scope x) (hd : (x == ("__debug__" : Str)) = false) (hcd : (x == ("__classdict__" : Str)) = false)
    (hk : PE X kx (TEm J (evE C k))) (hv : PE X vx (TEm J (evE C v))) (hp : plainX kx = true) (hs : swapsWith vx (some (.Subscript (.Name x p) kx tpos)) pos.line X.env = pure false) : PS X (.Assign [.Subscript (.Name x p) kx tpos] vx pos) (TSm J (evS C (.setI i k v))) := by
  have ha : ∀ v, assign (.Subscript (.Name x p) kx tpos) X.env v = (do
      let ov ← holding [v] (eval (.Name x p) X.env)
      let iv ← holding [v, ov] (eval kx X.env)
      standAt tpos
      holding [v, ov, iv] (setItem ov iv v)
      release [v, ov, iv] []) := by intro v; cases kx <;> first | rfl | cases hp
  refine PS.weak (ps_asg hv (pg_sub (pe_var hN hvs hd hcd) hk (set_M (g := J.T.g) hg hu) ha) hs) fun D σ H ⟨w, env, mh, R, o⟩ => ?_
  have o : SG J w H (if hasAt env i then SO.of env (fun r mh => SO.of env (fun q mh => match r, q with
      | .dat d, .dat x => upR i (fun c => putC c x d) env mh
      | _, _ => .stuck) (evE C k env mh)) (evE C v env mh) else .stuck) D := o
  split at o
  · rename_i hh
    have hat : ∃ rv, env[i]? = some (some rv) := by
      unfold hasAt at hh
      split at hh
      · rename_i r e; exact ⟨r, e⟩
      · cases hh
    obtain ⟨rv0, he0⟩ := hat
    obtain ⟨v0, hs0, _⟩ := R.e.ok i rv0 he0
    refine ⟨w, env, mh, R, (SG.of (rel := RvOk J.T) R o).mono fun v1 H1 ⟨w1, rv, mh1, x1, R1, r1, o1⟩ => ?_⟩
    have R1' := R.ext x1 R1
    refine ⟨v0, hs0, w1, env, mh1, R1', (SG.of (rel := RvOk J.T) R1' o1).mono fun v2 H2 ⟨w2, rk, mh2, x2, R2, r2, o2⟩ => ?_⟩
    have R2' := R1'.ext x2 R2
    cases rv with
    | dat d => cases rk with
     | dat e =>
      obtain ⟨a, c, c', hs', hf, h1, hF, hw⟩ := upR_at R2' o2 (fun c c' h => by
        unfold putC at h
        split at h
        · obtain ⟨j, _, rfl⟩ := Option.map_eq_some_iff.mp h
          exact .inl ⟨_, _, rfl, rfl⟩
        · split at h
          · cases h; exact .inr ⟨_, _, rfl, rfl⟩
          · cases h
        · cases h)
      rw [hs0] at hs'; cases hs'
      exact ⟨w2.F, a, c, e, d, c', rfl, h1, r2, x2.dv r1, hf, hw⟩
     | _ => exact o2.elim
    | _ => exact o2.elim
  · exact o.elim
/-- x += e on ints -/
theorem ms_aug {i : Nat} {op : Operator} {e : E} {x : Str} {v : Expr} {p pos : Pos} (hop : op = .Add ∨ op = .Sub) (hN : X.N.Nodup) (hi : X.N[i]? = some x) (hx : Loc X.env.scope x) (hf : X.fn x = true ∨ X.env.scope.names.lookup x = some .local) (he : PE X v (TEm J (evE C e)))
    (hd : (x == ("__debug__" : Str)) = false) (hcd : (x == ("__classdict__" : Str)) = false) : PS X (.AugAssign (.Name x p) op v pos) (TSm J (evS C (.aug i op e))) := by
  rcases hop with rfl | rfl
  · refine PS.weak (ps_aug hN hi hx he ip_add hf) fun D σ H ⟨w, env, mh, R, o⟩ => ?_
    have o : SG J w H (match env[i]? with
      | some (some (.dat (.int a))) => SO.of env (fun r mh => match r with
        | .dat (.int b) => .next (env.set i (some (.dat (.int (a + b))))) mh
        | _ => .stuck) (evE C e env mh)
      | _ => .stuck) D := o
    split at o
    · rename_i a he
      obtain ⟨v0, hs0, r0⟩ := R.e.ok i _ he
      cases r0
      refine ⟨_, hs0, w, env, mh, R, (SG.of (rel := RvOk J.T) R o).mono fun v1 H1 ⟨w1, rv, mh1, x1, R1, r1, o1⟩ => ?_⟩
      have R1' := R.ext x1 R1
      split at o1
      · cases r1
        exact ⟨a, _, rfl, rfl, o1.next .refl (R1'.setD (v := .int _) (rv := .dat (.int _)) (.int _) rfl)⟩
      · exact o1.elim
    · exact o.elim
  · refine PS.weak (ps_aug hN hi hx he ip_sub hf) fun D σ H ⟨w, env, mh, R, o⟩ => ?_
    have o : SG J w H (match env[i]? with
      | some (some (.dat (.int a))) => SO.of env (fun r mh => match r with
        | .dat (.int b) => .next (env.set i (some (.dat (.int (a - b))))) mh
        | _ => .stuck) (evE C e env mh)
      | _ => .stuck) D := o
    split at o
    · rename_i a he
      obtain ⟨v0, hs0, r0⟩ := R.e.ok i _ he
      cases r0
      refine ⟨_, hs0, w, env, mh, R, (SG.of (rel := RvOk J.T) R o).mono fun v1 H1 ⟨w1, rv, mh1, x1, R1, r1, o1⟩ => ?_⟩
      have R1' := R.ext x1 R1
      split at o1
      · cases r1
        exact ⟨a, _, rfl, rfl, o1.next .refl (R1'.setD (v := .int _) (rv := .dat (.int _)) (.int _) rfl)⟩
      · exact o1.elim
    · exact o.elim

/-! ### returns -/
theorem RvN.freeze {T : Stat} {B : Base} {w : Wd} {env : MEnv} {mh : MH} {σ : L2.St} {H : Hp} {i : Nat} {r r' : RV} {v : V} (R : Rel T B w env mh σ H) (he : env[i]? = some (some r)) (hs : σ[i]? = some (some v)) (h : RvOk T w H v r) (hf : frzR r = some r') :
    ∃ w', Ext B.w B.H w' H ∧ RelH T w' mh H ∧ RvN T B.H w' H v r' := by
  cases r with
  | dat d => cases (Option.some.inj hf); exact ⟨w, R.x, R.h, h, fun z => by cases z⟩
  | ref n => cases (Option.some.inj hf); exact ⟨w, R.x, R.h, h, fun z => by cases z⟩
  | olst ds =>
    cases (Option.some.inj hf)
    obtain ⟨a, xs, rfl, h1, h2, h3, h4⟩ := h
    have hb := R.own i _ a he rfl hs
    exact ⟨w.add a, R.x.freeze hb, R.h.freeze h3 h1, .lst (.inr rfl) (.inl h1) (h2.mono (fun _ => .inl) fun _ _ _ e => e), fun z => by cases z⟩
  | odct ps =>
    cases (Option.some.inj hf)
    obtain ⟨a, rfl, h1, h3, h4⟩ := h
    have hb := R.own i _ a he rfl hs
    rcases h1 with ⟨kvs, h1, h2⟩ | ⟨kvs, h1, h2⟩
    · exact ⟨w.add a, R.x.freeze hb, R.h.freeze h3 h1, .dK (.inr rfl) (.inl h1) (h2.mono (fun _ => .inl) fun _ _ _ e => e), fun z => by cases z⟩
    · exact ⟨w.add a, R.x.freeze hb, R.h.freeze h3 h1, .dT (.inr rfl) (.inl h1) (h2.mono (fun _ => .inl) fun _ _ _ e => e), fun z => by cases z⟩
  | xcp c a => cases hf
theorem ms_retV {i : Nat} {x : Str} {p pos : Pos} (hN : X.N[i]? = some x) (hv : Vis X.env.scope x) (hd : (x == ("__debug__" : Str)) = false) (hcd : (x == ("__classdict__" : Str)) = false) : PS X (.Return (some (.Name x p)) pos) (TSm J (evS C (.ret (.var i)))) := by
  refine PS.weak (ps_ret (pe_var hN hv hd hcd)) fun D σ H ⟨w, env, mh, R, o⟩ => ?_
  have o : SG J w H (match env[i]? with
      | some (some r) => (match frzR r with
        | some r => .ret r mh
        | none => .stuck)
      | _ => .stuck) D := o
  split at o
  · rename_i r he
    obtain ⟨v, hs, hr⟩ := R.e.ok i r he
    split at o
    · rename_i r' hf
      obtain ⟨w', e1, e2, e3⟩ := RvN.freeze R he hs hr hf
      exact ⟨v, hs, o w' v H e1 e2 e3⟩
    · exact o.elim
  · exact o.elim
theorem ms_retMV {i : Nat} {x : Str} {p pos : Pos} (hN : X.N[i]? = some x) (hv : Vis X.env.scope x) (hd : (x == ("__debug__" : Str)) = false) (hcd : (x == ("__classdict__" : Str)) = false) : PS X (.Return (some (.Name x p)) pos) (TSm J (evS C (.retM (.var i)))) := by
  refine PS.weak (ps_ret (pe_var hN hv hd hcd)) fun D σ H ⟨w, env, mh, R, o⟩ => ?_
  have o : SG J w H (match env[i]? with
      | some (some (.olst xs)) => .ret (.olst xs) mh
      | some (some (.odct kvs)) => .ret (.odct kvs) mh
      | _ => .stuck) D := o
  split at o
  · rename_i xs he
    obtain ⟨v, hs, hr⟩ := R.e.ok i _ he
    exact ⟨v, hs, o w v H R.x R.h ⟨hr, fun _ a e => R.own i _ a he rfl (by rw [hs, e])⟩⟩
  · rename_i xs he
    obtain ⟨v, hs, hr⟩ := R.e.ok i _ he
    exact ⟨v, hs, o w v H R.x R.h ⟨hr, fun _ a e => R.own i _ a he rfl (by rw [hs, e])⟩⟩
  · exact o.elim
def notVar : E → Bool
  | .var _ => false
  | _ => true
theorem evS_ret {e : E} (h : notVar e = true) (env : MEnv) (mh : MH) : evS C (.ret e) env mh = SO.of env (fun r mh => match r with
      | .dat d => .ret (.dat d) mh
      | .ref n => .ret (.ref n) mh
      | _ => .stuck) (evE C e env mh) := by cases e <;> first | rfl | cases h
theorem evS_retM {e : E} (h : notVar e = true) (env : MEnv) (mh : MH) : evS C (.retM e) env mh = SO.of env (fun r mh => match freshV e r with
      | some r => .ret r mh
      | none => .stuck) (evE C e env mh) := by cases e <;> first | rfl | cases h
theorem ms_ret {e : E} {x : Expr} {pos : Pos} (h : notVar e = true) (he : PE X x (TEm J (evE C e))) : PS X (.Return (some x) pos) (TSm J (evS C (.ret e))) :=
  PS.weak (ps_ret he) fun D σ H ⟨w, env, mh, R, o⟩ => by
    rw [evS_ret h] at o
    refine ⟨w, env, mh, R, (SG.of (rel := RvOk J.T) R o).mono fun v1 H1 ⟨w1, rv, mh1, x1, R1, r1, o1⟩ => ?_⟩
    have R1' := R.ext x1 R1
    cases rv with
    | dat d => exact o1 w1 v1 H1 R1'.x R1 ⟨r1, fun z => by cases z⟩
    | ref n => exact o1 w1 v1 H1 R1'.x R1 ⟨r1, fun z => by cases z⟩
    | _ => exact o1.elim
theorem ms_retM {e : E} {x : Expr} {pos : Pos} (h : notVar e = true) (he : PE X x (TEo J C e)) : PS X (.Return (some x) pos) (TSm J (evS C (.retM e))) :=
  PS.weak (ps_ret he) fun D σ H ⟨w, env, mh, R, o⟩ => by
    rw [evS_retM h] at o
    refine TEo.run R ((SG.of R o).mono fun v1 H1 ⟨w1, rv, mh1, x1, R1, r1, o1⟩ => ?_)
    have R1' := R.ext x1 R1
    split at o1
    · rename_i r hr
      obtain ⟨a, rfl, hn, h1, h2⟩ := freshV_of r1 hr
      exact o1 w1 _ H1 R1'.x R1 ⟨h1, fun _ b e => by cases e; exact R.x.old R.h a hn⟩
    · exact o1.elim

/-! ### loops -/
theorem ms_for {t : Tg} {it : Mn.It} {bd : Ss} {tx ix : Expr} {body : List Stmt} {pos : Pos} (hp : PassesOwn (model X.prog X.w) X.A X.env X.xe) (hc : X.calm = true) (hi : PI X tx ix (TIm J FKeep t (evItF C it))) (hg : PG X tx (TGm J t)) (hb : PSs X body (TSm J (evSs C bd))) (hx : plainX ix = true) :
    PS X (.For tx ix body [] pos) (TSm J (evS C (.for_ t it bd))) :=
  PS.weak (ps_for hp hc hi hg hb (folded_of hx)) fun D σ H ⟨w, env, mh, R, o⟩ => by
    refine ⟨w, env, mh, R, (SG.of (rel := WalksR FKeep t J.T.g) R o).mono fun I H1 ⟨w1, ds, mh1, x1, R1, wk, o1⟩ => ?_⟩
    refine ⟨fun i m σ' Hc => m = ds.length - i ∧ i ≤ ds.length ∧ ∃ wc envc mhc, FKeep w1 H1 wc Hc ∧ Rel J.T J.B wc envc mhc σ' Hc ∧ SG J wc Hc (forL t (fun env mh => evSs C bd env mh) (ds.drop i) envc mhc) D,
      ⟨_, rfl, Nat.zero_le _, w1, env, mh1, .refl, R.ext x1 R1, o1⟩, ?_⟩
    intro i m σ' Hc ⟨hm, hil, wc, envc, mhc, kc, Rc, oc⟩
    have wkc := wk wc Hc kc
    by_cases hlt : i < ds.length
    · refine .inr ⟨wkc.1 i hlt, fun σn Hn => ∃ wn envn mhn, FKeep w1 H1 wn Hn ∧ Rel J.T J.B wn envn mhn σn Hn ∧ SG J wn Hn (forL t (fun env mh => evSs C bd env mh) (ds.drop (i + 1)) envn mhn) D, fun σn Hn hn => ⟨ds.length - (i + 1), by omega, rfl, by omega, hn⟩, ?_⟩
      intro x Hy hy
      obtain ⟨d, hd, bd', hH⟩ := wkc.2.2 i x Hy hy hlt
      have hdrop : ds.drop i = d :: ds.drop (i + 1) := by
        rw [List.drop_eq_getElem_cons hlt]
        rw [List.getElem?_eq_getElem hlt] at hd
        cases hd; rfl
      rw [hdrop] at oc
      have xy : Ext wc Hc wc Hy := by
        rcases hH with rfl | ⟨p, ob, hp, rfl⟩
        · exact .refl
        · exact Ext.lay hp
      have Ry : RelH J.T wc mhc Hy := by
        rcases hH with rfl | ⟨p, ob, hp, rfl⟩
        · exact Rc.h
        · exact Rc.h.lay hp
      unfold forL at oc
      cases hb : bindT t d envc with
      | none => rw [hb] at oc; exact oc.elim
      | some env' =>
        rw [hb] at oc
        refine ⟨wc, envc, d, env', mhc, Rc.ext xy Ry, bd', hb, fun σ2 R2 _ => ⟨wc, env', mhc, R2, ?_⟩⟩
        refine (SG.turn (SG.later xy.fk oc)).mono (fun σn Hn ⟨wn, en, mn, k, r, o⟩ => ⟨wn, en, mn, (kc.trans xy.fk).trans k, r, o⟩) (fun _ _ h => h) (fun _ _ h => h) (fun σn Hn ⟨wn, en, mn, k, r, o⟩ => ⟨wn, en, mn, (kc.trans xy.fk).trans k, r, o⟩)
    · have hie : i = ds.length := by omega
      subst hie
      rw [List.drop_length] at oc
      exact .inl ⟨wkc.2.1, oc.next .refl Rc⟩
theorem ms_while {n : Nat} {c : E} {bd : Ss} {x : Expr} {body : List Stmt} {pos : Pos} (hp : PassesOwn (model X.prog X.w) X.A X.env X.xe) (hc : PT X x (TTm J (evT C c))) (hb : PSs X body (TSm J (evSs C bd))) :
    PS X (.While x body [] pos) (TSm J (evS C (.while_ n c bd))) :=
  PS.weak (ps_while hp hc hb) fun D σ H ⟨w, env, mh, R, o⟩ => by
    refine ⟨fun m σ' Hc => ∃ wc envc mhc, Rel J.T J.B wc envc mhc σ' Hc ∧ FKeep w H wc Hc ∧ SG J wc Hc (whileL (fun env mh => evT C c env mh) (fun env mh => evSs C bd env mh) m envc mhc) D, ⟨n, w, env, mh, R, .refl, o⟩, ?_⟩
    intro m σ' Hc ⟨wc, envc, mhc, Rc, kc, oc⟩
    cases m with
    | zero => exact oc.elim
    | succ m =>
      unfold whileL at oc
      refine ⟨wc, envc, mhc, Rc, (SG.of (rel := relB) Rc oc).mono fun v H1 ⟨w1, t, mh1, x1, R1, r1, o1⟩ => ?_⟩
      cases (show v = t from r1)
      have R1' := Rc.ext x1 R1
      cases v with
      | true =>
        rw [if_pos rfl]
        refine ⟨fun σn Hn => ∃ wn envn mhn, Rel J.T J.B wn envn mhn σn Hn ∧ FKeep w H wn Hn ∧ SG J wn Hn (whileL (fun env mh => evT C c env mh) (fun env mh => evSs C bd env mh) m envn mhn) D, fun σn Hn hn => ⟨m, Nat.lt_succ_self _, hn⟩, w1, envc, mh1, R1', ?_⟩
        exact (SG.turn o1).mono (fun σn Hn ⟨wn, en, mn, k, r, o⟩ => ⟨wn, en, mn, r, (kc.trans x1.fk).trans k, o⟩) (fun _ _ h => h) (fun _ _ h => h) (fun σn Hn ⟨wn, en, mn, k, r, o⟩ => ⟨wn, en, mn, r, (kc.trans x1.fk).trans k, o⟩)
      | false =>
        rw [if_neg (by simp)]
        exact o1.next .refl R1'

/-! ### a list that is not written any more -/
theorem mss_frz {i : Nat} {r : Ss} {xs : List Stmt} (h : PSs X xs (TSm J (evSs C r))) : PSs X xs (TSm J (evSs C (.cons (.frz i) r))) :=
  PSs.weak h fun D σ H ⟨w, env, mh, R, o⟩ => by
    have o : SG J w H ((match env[i]? with
      | some (some (.olst xs)) => SO.next (env.set i (some (.dat (.list xs)))) mh
      | some (some (.odct kvs)) => .next (env.set i (some (.dat (.dict kvs)))) mh
      | _ => .next env mh).then (fun env mh => evSs C r env mh)) D := o
    have frz : ∀ {rv : RV} {d : PyData}, env[i]? = some (some rv) → rv.own = true → frzR rv = some (.dat d) → ∃ w', FKeep w H w' H ∧ Rel J.T J.B w' (env.set i (some (.dat d))) mh σ H := fun {rv d} he ho hf => by
      obtain ⟨v, hs, hr⟩ := R.e.ok i rv he
      obtain ⟨a, ob, rfl, h1, h3, h4⟩ := own_ref hr ho
      have hb := R.own i _ a he ho hs
      have rd : Dv J.T.g (w.add a).F H (.ref a) d := by
        cases rv with
        | olst ds =>
          cases (Option.some.inj hf)
          obtain ⟨b, xs, e, g1, g2, _⟩ := hr
          cases e
          exact .lst (.inr rfl) (.inl g1) (g2.mono (fun _ => .inl) fun _ _ _ e => e)
        | odct ps =>
          cases (Option.some.inj hf)
          obtain ⟨b, e, g1, _⟩ := hr
          cases e
          rcases g1 with ⟨kvs, g1, g2⟩ | ⟨kvs, g1, g2⟩
          · exact .dK (.inr rfl) (.inl g1) (g2.mono (fun _ => .inl) fun _ _ _ e => e)
          · exact .dT (.inr rfl) (.inl g1) (g2.mono (fun _ => .inl) fun _ _ _ e => e)
        | _ => cases ho
      refine ⟨w.add a, ⟨fun _ h => .inl h, fun _ _ _ e => e⟩, ⟨R.h.freeze h3 h1, ⟨by rw [List.length_set]; exact R.e.len, fun j r hj => ?_, fun j k r1 r2 b hjk e1 e2 o1 o2 s1 s2 => ?_⟩, R.x.freeze hb, fun j r b hj o1 s1 => ?_⟩⟩
      · rcases set_get hj with ⟨rfl, e⟩ | ⟨hne, hj'⟩
        · cases e; exact ⟨_, hs, rd⟩
        · obtain ⟨u, e, q⟩ := R.e.ok j r hj'
          refine ⟨u, e, ?_⟩
          cases r with
          | dat d' => exact Dv.mono (fun _ => .inl) (fun _ _ _ e => e) q
          | ref n => exact q
          | olst ds =>
            obtain ⟨b, xs, rfl, g1, g2, g3, g4⟩ := q
            refine ⟨b, xs, rfl, g1, g2.mono (fun _ => .inl) fun _ _ _ e => e, g3, fun z => ?_⟩
            rcases z with z | z
            · exact g4 z
            · subst z; exact R.e.own j i _ rv _ hne hj' he rfl ho e hs
          | odct ps =>
            obtain ⟨b, rfl, g1, g3, g4⟩ := q
            refine ⟨b, rfl, ?_, g3, fun z => ?_⟩
            · rcases g1 with ⟨kvs, g1, g2⟩ | ⟨kvs, g1, g2⟩
              · exact .inl ⟨kvs, g1, g2.mono (fun _ => .inl) fun _ _ _ e => e⟩
              · exact .inr ⟨kvs, g1, g2.mono (fun _ => .inl) fun _ _ _ e => e⟩
            · rcases z with z | z
              · exact g4 z
              · subst z; exact R.e.own j i _ rv _ hne hj' he rfl ho e hs
          | xcp c arg =>
            obtain ⟨b, cls, dd, e1, e2, e3, e4⟩ := q
            refine ⟨b, cls, dd, e1, e2, e3, ?_⟩
            cases arg with
            | none => exact e4
            | some x =>
              obtain ⟨p, u', g1, g2, g3, g4⟩ := e4
              exact ⟨p, u', g1, .inl g2, g3, g4.mono (fun _ => .inl) fun _ _ _ e => e⟩
      · rcases set_get e1 with ⟨_, e1'⟩ | ⟨n1, e1'⟩
        · cases e1'; cases o1
        rcases set_get e2 with ⟨_, e2'⟩ | ⟨n2, e2'⟩
        · cases e2'; cases o2
        exact R.e.own j k r1 r2 b hjk e1' e2' o1 o2 s1 s2
      · rcases set_get hj with ⟨_, e1'⟩ | ⟨n1, e1'⟩
        · cases e1'; cases o1
        exact R.own j r b e1' o1 s1
    split at o
    · rename_i xs he
      obtain ⟨w', k, R'⟩ := frz he rfl rfl
      exact ⟨w', _, mh, R', SG.later k o⟩
    · rename_i xs he
      obtain ⟨w', k, R'⟩ := frz he rfl rfl
      exact ⟨w', _, mh, R', SG.later k o⟩
    · exact ⟨w, env, mh, R, o⟩
end
end Mn
end
section
set_option linter.all false
set_option autoImplicit false
set_option maxRecDepth 100000
/-! Mini: x.remove(text) as a statement. -/
namespace Mn
open PySem PySem.Spec PyProof.Rows L2
theorem dvA_strs {g : Pw} {F : Addr → Prop} {H : Hp} : ∀ {vs : List V} {ds : List PyData}, DvA g F H vs ds → ds.all isStrD = true → ∀ x ∈ vs, ∃ s, x = .str s
  | _, _, .nil, _ => fun x hx => by cases hx
  | _, _, .cons r t, h => fun x hx => by
    rw [List.all_cons, Bool.and_eq_true] at h
    rcases List.mem_cons.mp hx with e | hx
    · rw [e]
      have h1 := h.1
      cases r <;> first | exact ⟨_, rfl⟩ | (simp [isStrD] at h1)
    · exact dvA_strs t h.2 x hx
theorem DvA.getV {g : Pw} {F : Addr → Prop} {H : Hp} : ∀ {vs : List V} {ds : List PyData} {i : Nat} {v : V}, DvA g F H vs ds → vs[i]? = some v → ∃ d, ds[i]? = some d ∧ Dv g F H v d
  | _, _, _, _, .nil, e => by simp at e
  | _, _, 0, _, .cons r _, e => by simp at e; subst e; exact ⟨_, rfl, r⟩
  | _, _, i + 1, d, .cons _ t, e => by
    obtain ⟨v, h1, h2⟩ := DvA.getV (i := i) t (by simpa using e)
    exact ⟨v, by simpa using h1, h2⟩
section
variable {X : Cx} {J : Jd} {C : CallF}
theorem ms_rem {i : Nat} {e : E} {x : Str} {v : Expr} {p apos cpos pos : Pos} (hN : X.N[i]? = some x) (hv : Vis X.env.scope x) (hd : (x == ("__debug__" : Str)) = false) (hcd : (x == ("__classdict__" : Str)) = false)
    (he : PE X v (TEm J (evE C e))) (hp : plainX v = true) (hline : (apos.endLine == cpos.line) = true) : PS X (.Expr (.Call (.Attribute (.Name x p) "remove" apos) [v] [] cpos) pos) (TSm J (evS C (.rem i e))) := by
  refine PS.weak (ps_expr (pe_bmG PySem.F.plainAttrs_list PySem.F.slot_list_remove PySem.F.type_list_remove mt_removeS (pe_var hN hv hd hcd) (pa_cons he pa_nil (star_of hp)) rfl (by simp [hp]) (by simp) hline) rfl) fun D σ H ⟨w, env, mh, R, o⟩ => ?_
  have o : SG J w H (if lstAt env mh i then SO.of env (fun r mh => match r with
      | .dat d => upR i (remD d) env mh
      | _ => .stuck) (evE C e env mh) else .stuck) D := o
  split at o
  · rename_i hl
    have hat : ∃ a xs, σ[i]? = some (some (V.ref a)) ∧ H a = some (.lst xs) := by
      unfold lstAt at hl
      split at hl
      · rename_i ds he
        obtain ⟨v, hs, a, vs, rfl, h1, _⟩ := R.e.ok i _ he
        exact ⟨a, vs, hs, h1⟩
      · rename_i r hr he
        obtain ⟨n, xs, rfl, hn⟩ := isLstC_of hl
        obtain ⟨v, hs, a, rfl, hc⟩ := R.e.ok i _ he
        obtain ⟨vs, h1, _⟩ := R.h.ok n _ a hn hc
        exact ⟨a, vs, hs, h1⟩
      · cases hl
    obtain ⟨a, xs, hs, hH⟩ := hat
    refine ⟨.ref a, hs, ty_list (.inl hH), w, env, mh, R, (SG.of (rel := RvOk J.T) R o).mono fun v1 H1 ⟨w1, rv, mh1, x1, R1, r1, o1⟩ => ?_⟩
    cases rv with
    | dat d =>
      obtain ⟨a', c, c', hs', hf, h1, hF, hw⟩ := upR_at (R.ext x1 R1) o1 (fun c c' h => by
        unfold remD at h
        split at h
        · split at h
          · split at h
            · split at h
              · cases h; exact .inl ⟨_, _, rfl, rfl⟩
              · cases h
            · cases h
          · cases h
        · cases h)
      rw [hs] at hs'; cases hs'
      unfold remD at hf
      split at hf
      · rename_i ds
        split at hf
        · rename_i k
          split at hf
          · rename_i hall
            split at hf
            · rename_i j hj
              cases hf
              obtain ⟨vs, h2, h3⟩ := h1
              obtain ⟨hjl, hjt, hjn⟩ := List.findIdx?_eq_some_iff_getElem.mp hj
              have hst := dvA_strs h3 hall
              have hl := h3.length
              cases r1
              have key : ∀ m (hm : m < ds.length), keyEq ds[m] (.str k) = true ↔ vs[m]? = some (.str k) := fun m hm => by
                obtain ⟨vm, e1, q1⟩ := h3.get (List.getElem?_eq_getElem hm)
                obtain ⟨sm, rfl⟩ := hst _ (List.mem_of_getElem? e1)
                generalize ds[m] = dm at q1
                cases q1
                rw [e1]
                show (decide (sm = k)) = true ↔ _
                rw [decide_eq_true_eq]
                exact ⟨fun e => by rw [e], fun e => by cases (Option.some.inj e); rfl⟩
              exact ⟨a, vs, k, j, rfl, rfl, h2, hst, (key j hjl).mp hjt, fun m hm e => by
                have := (key m (by omega)).mpr e
                exact hjn m hm this, hw _ ⟨_, rfl, h3.eraseIdx j⟩⟩
            · cases hf
          · cases hf
        · cases hf
      · cases hf
    | _ => exact o1.elim
  · exact o.elim
end
end Mn
end
section
set_option linter.all false
set_option autoImplicit false
set_option maxRecDepth 100000
/-! Mini: rules for raise, try, caught errors. -/
namespace Mn
open PySem PySem.Spec PyProof.Rows L2

abbrev veMro : List Value := [.type "ValueError", .type "Exception", .type "BaseException", .type "object"]
/-- an own error class without fields: what the written part says -/
structure Kl0 (X : Cx) (x : Str) (A : Addr) : Prop where
  ex : PySem.W.excIn X.K A veMro "ValueError.__new__" = true
  gl : X.mg x = some (.ref A)
  kp : PySem.W.keepIn X.K (.ref A) = true
  sb : PySem.W.subIn X.K (.ref A) (.type "BaseException") = some true
  ty : PySem.W.typeIn X.K (.ref A) = some (.type "type")
  db : (x == ("__debug__" : Str)) = false
theorem pmk_own0 {X : Cx} {x : Str} {A : Addr} {p pos : Pos} (k : Kl0 X x A) (hg : Gl X x) : L2N.PMk X (.Call (.Name x p) [] [] pos) (fun _ H Q => Q (.ref A) none H) := by
  intro pins s σ H Q I h
  refine wpAny_Call_Name_kw (ld_glob I hg k.gl ?_ k.db)
  refine PySem.W.callWith_K0 I.kIn k.kp ?_
  show wpAny _ _ (call (.ref A) []) _ _ _
  obtain ⟨bm, N, nm, qn, bs, hdct, sn, sub, ab, col, dd, k0, k1, k2, k3, k5, mN, hC, hN, hni, T⟩ := exc_obj I.kIn k.ex
  refine wpAny_call_exc_subT F.excBase_ValueError T hC hN hni (fun h' e hm => ?_) (Nat.zero_le _)
  exact L2N.mk_of I hm (raises_own k.sb k.ty) h (I.hok.gone hm.new)
section
variable {X : Cx} {J : Jd} {C : CallF}
theorem ms_raise0 {c : Nat} {x : Str} {p cpos pos : Pos} (hc : X.calm = true) (tk : L2N.Takes X J.W) (k : Kl0 X x (J.T.ca c)) (hg : Gl X x) : PS X (.Raise (some (.Call (.Name x p) [] [] cpos)) none pos) (TSm J (evS C (.raise c .nil))) :=
  PS.weak (L2N.ps_raise hc tk (pmk_own0 k hg)) fun D σ H ⟨w, env, mh, R, o⟩ => o w σ (.ref (J.T.ca c)) none H .refl R ⟨rfl, rfl⟩

/-! ### try -/
/-- what a suite stands over: the error that it holds -/
def Stat.at (T : Stat) (a : Addr) (cls : Value) (d : Option Addr) : Stat := { T with ex := some (a, cls, d) }
def Jd.suite (J : Jd) (a : Addr) (cls : Value) (d : Option Addr) : Jd := { T := J.T.at a cls d, B := J.B, W := fun _ _ _ _ => False }
section
variable {T : Stat} {w : Wd} {mh : MH} {H : Hp} {a : Addr} {cls : Value} {d : Option Addr}
theorem FsOk.to {e : Option (Addr × Value × Option Addr)} : ∀ {fs : List (Str × V)} {gs : List (Nat × RV)}, FsOk T w H fs gs → FsOk { T with ex := e } w H fs gs
  | _, _, .nil => .nil
  | _, _, .dat (k := k) r t => FsOk.dat (T := { T with ex := e }) (k := k) r t.to
  | _, _, .ref (k := k) r t => FsOk.ref (T := { T with ex := e }) (k := k) r t.to
theorem CellOk.to {e : Option (Addr × Value × Option Addr)} {b : Addr} {c : Cell} (h : CellOk T w H b c) : CellOk { T with ex := e } w H b c := by
  cases c with
  | ins c fs => obtain ⟨dx, hfs, h1, h2, h3⟩ := h; exact ⟨dx, hfs, h1, h2.to, h3⟩
  | lst ds => exact h
  | dct ps => exact h
  | dead => trivial
theorem RelH.to {e : Option (Addr × Value × Option Addr)} (R : RelH T w mh H) : RelH { T with ex := e } w mh H := ⟨R.len, R.nd, R.thF, R.thC, fun n c a h1 h2 => (R.ok n c a h1 h2).to, R.live⟩
theorem RvOk.to {e : Option (Addr × Value × Option Addr)} {v : V} {r : RV} (h : RvOk T w H v r) (hx : r.noX = true) : RvOk { T with ex := e } w H v r := by
  cases r with
  | xcp c a => cases hx
  | _ => exact h
theorem Rel.to {e : Option (Addr × Value × Option Addr)} {B : Base} {env : MEnv} {σ : L2.St} (R : Rel T B w env mh σ H) (hx : ∀ (i : Nat) (r : RV), env[i]? = some (some r) → r.noX = true) : Rel { T with ex := e } B w env mh σ H :=
  ⟨R.h.to, ⟨R.e.len, fun i r h => let ⟨v, e1, q⟩ := R.e.ok i r h; ⟨v, e1, q.to (hx i r h)⟩, R.e.own⟩, R.x, R.own⟩
theorem noX_get {env : MEnv} (h : Mn.noX env = true) : ∀ (i : Nat) (r : RV), env[i]? = some (some r) → r.noX = true := fun i r e => by
  have := List.all_eq_true.mp h (some r) (List.mem_of_getElem? e)
  exact this
theorem Rel.noX {B : Base} {env : MEnv} {σ : L2.St} (R : Rel T B w env mh σ H) (hT : T.ex = none) : ∀ (i : Nat) (r : RV), env[i]? = some (some r) → r.noX = true := fun i r e => by
  obtain ⟨v, _, q⟩ := R.e.ok i r e
  cases r with
  | xcp c a => obtain ⟨_, _, _, _, z, _⟩ := q; rw [hT] at z; cases z
  | _ => rfl
theorem Stat.ex_self {T : Stat} (hT : T.ex = none) : { T with ex := none } = T := by cases T; cases hT; rfl
theorem Stat.at_back {T : Stat} (hT : T.ex = none) : { T.at a cls d with ex := none } = T := by cases T; cases hT; rfl
end
theorem RelH.unsuite {w : Wd} {mh : MH} {H : Hp} {a : Addr} {cls : Value} {d : Option Addr} (hT : J.T.ex = none) (r : RelH (J.suite a cls d).T w mh H) : RelH J.T w mh H := by
  have e : ({ (J.T.at a cls d) with ex := none } : Stat) = J.T := Stat.at_back hT
  rw [← e]
  exact RelH.to (T := J.T.at a cls d) r
theorem RvOk.unsuite {w : Wd} {H : Hp} {a : Addr} {cls : Value} {d : Option Addr} {v : V} {x : RV} (hT : J.T.ex = none) (r : RvOk (J.suite a cls d).T w H v x) (hx : x.noX = true) : RvOk J.T w H v x := by
  have e : ({ (J.T.at a cls d) with ex := none } : Stat) = J.T := Stat.at_back hT
  rw [← e]
  exact RvOk.to (T := J.T.at a cls d) r hx
theorem ms_tryAs {k c : Nat} {bd su : Ss} {x n : Str} {cv : Value} {body suite : List Stmt} {b₀ : Stmt} {np pos pos' : Pos} (hT : J.T.ex = none) (hs : X.stack = X.env :: X.outer) (hf : X.env.frame = some X.env.locals) (hN : X.N.Nodup) (hi : X.N[k]? = some n) (hln : X.env.kindOf n = some .local) (hc : Names X x cv) (tk : L2N.Takes X J.W)
    (hsub : ∀ y b, C.sub y c = some b → PySem.W.exmOne X.K (.ref (J.T.ca y)) cv = some b)
    (hb : ∀ (W : WX) (pn : List (Addr × Obj)) (xe : Value → Shared → Prop), L2N.Takes (X.tr pn xe) W → PassesOwn (model X.prog X.w) X.A X.env xe → PSs (X.tr pn xe) body (TSm { J with W := W } (evSs C bd)))
    (hsu : ∀ (a : Addr) (oe : Obj) (cls : Value) (d : Option Addr) (pn : List (Addr × Obj)), L2N.Zn cls d oe → (∃ vs, oe.data = .fields vs) → PSs (X.suite a ((a, oe) :: pn)) (b₀ :: suite) (TSm (J.suite a cls d) (evSs C su))) :
    PS X (.Try body [.ExceptHandler (some (.Name x np)) (some n) (b₀ :: suite) pos'] [] [] pos) (TSm J (evS C (.try_ bd c (some k) su))) := by
  refine PS.weak (L2N.ps_try_as (tb := fun W => TSm { J with W := W } (evSs C bd)) (ts := fun a cls d => TSm (J.suite a cls d) (evSs C su)) hs hf hN hi hln hc tk hb hsu) fun D σ H ⟨w, env, mh, R, o⟩ => ?_
  refine ⟨w, env, mh, R, ?_⟩
  have o : SG J w H (match evSs C bd env mh with
    | .exc x env' mh' => (match C.sub x.c c with
      | some true => if k < env'.length then (evSs C su (env'.set k (some (.xcp x.c x.arg))) mh').unX k else .stuck
      | some false => .exc x env' mh'
      | none => .stuck)
    | o => o) D := o
  cases he : evSs C bd env mh with
  | next e m => rw [he] at o; exact o
  | brk e m => rw [he] at o; exact o
  | cont e m => rw [he] at o; exact o
  | ret r m => rw [he] at o; exact o
  | stuck => rw [he] at o; exact o.elim
  | exc y env' mh' =>
    rw [he] at o
    have o : SG J w H (match C.sub y.c c with
      | some true => if k < env'.length then (evSs C su (env'.set k (some (.xcp y.c y.arg))) mh').unX k else .stuck
      | some false => .exc y env' mh'
      | none => .stuck) D := o
    intro w' σ' cls d H' kk R' hx
    cases hsb : C.sub y.c c with
    | none => rw [hsb] at o; exact o.elim
    | some b =>
      have hcls := hx.1
      refine ⟨b, by rw [hcls]; exact hsub _ _ hsb, fun hbt a hn => ?_, fun hbf => ?_⟩
      · subst hbt
        rw [hsb] at o
        have o : SG J w H (if k < env'.length then (evSs C su (env'.set k (some (.xcp y.c y.arg))) mh').unX k else .stuck) D := o
        split at o
        · have nx' := Rel.noX R' hT
          have R2 : Rel (J.T.at a cls d) J.B w' env' mh' σ' H' := R'.to nx'
          have R3 : Rel (J.T.at a cls d) J.B w' (env'.set k (some (.xcp y.c y.arg))) mh' (σ'.set k (some (.ref a))) H' := R2.setD (v := .ref a) (rv := .xcp y.c y.arg) ⟨a, cls, d, rfl, rfl, hx⟩ rfl
          refine ⟨w', _, mh', R3, ?_⟩
          -- the suite's end
          have back : ∀ {w1 : Wd} {e1 : MEnv} {m1 : MH} {σ1 : L2.St} {H1 : Hp}, Rel (J.T.at a cls d) J.B w1 e1 m1 σ1 H1 → noX (e1.set k none) = true → Rel J.T J.B w1 (e1.set k none) m1 (σ1.set k none) H1 := fun r hx => by
            have q := (r.drop (i := k) (o := none)).to (e := none) (noX_get hx)
            rw [Stat.at_back hT] at q
            exact q
          generalize evSs C su (env'.set k (some (.xcp y.c y.arg))) mh' = so at o ⊢
          cases so with
          | next e m =>
            have o : SG J w H (if Mn.noX (e.set k none) then .next (e.set k none) m else .stuck) D := o
            split at o
            · rename_i hh; exact fun w1 σ1 H1 fk r => o w1 _ H1 (kk.trans fk) (back r hh)
            · exact o.elim
          | brk e m =>
            have o : SG J w H (if Mn.noX (e.set k none) then .brk (e.set k none) m else .stuck) D := o
            split at o
            · rename_i hh; exact fun w1 σ1 H1 fk r => o w1 _ H1 (kk.trans fk) (back r hh)
            · exact o.elim
          | cont e m =>
            have o : SG J w H (if Mn.noX (e.set k none) then .cont (e.set k none) m else .stuck) D := o
            split at o
            · rename_i hh; exact fun w1 σ1 H1 fk r => o w1 _ H1 (kk.trans fk) (back r hh)
            · exact o.elim
          | ret r m =>
            have o : SG J w H (if r.noX then .ret r m else .stuck) D := o
            split at o
            · rename_i hh
              refine fun w1 v H1 x1 r1 r2 => o w1 v H1 x1 ?_ ⟨?_, r2.2⟩
              · exact RelH.unsuite hT r1
              · exact RvOk.unsuite hT r2.1 hh
            · exact o.elim
          | exc z e m => exact o.elim
          | stuck => exact o.elim
        · exact o.elim
      · subst hbf
        rw [hsb] at o
        exact o w' σ' cls d H' kk R' hx
theorem ms_tryOnly {c : Nat} {bd su : Ss} {x : Str} {cv : Value} {body suite : List Stmt} {b₀ : Stmt} {np pos pos' : Pos} (hs : X.stack = X.env :: X.outer) (hf : X.env.frame = some X.env.locals) (hc : Names X x cv) (tk : L2N.Takes X J.W)
    (hsub : ∀ y b, C.sub y c = some b → PySem.W.exmOne X.K (.ref (J.T.ca y)) cv = some b)
    (hb : ∀ (W : WX) (pn : List (Addr × Obj)) (xe : Value → Shared → Prop), L2N.Takes (X.tr pn xe) W → PassesOwn (model X.prog X.w) X.A X.env xe → PSs (X.tr pn xe) body (TSm { J with W := W } (evSs C bd)))
    (hsu : ∀ (a : Addr) (oe : Obj) (cls : Value) (d : Option Addr) (pn : List (Addr × Obj)), L2N.Zn cls d oe → (∃ vs, oe.data = .fields vs) → PSs (X.suite a ((a, oe) :: pn)) (b₀ :: suite) (TSm J.nox (evSs C su))) :
    PS X (.Try body [.ExceptHandler (some (.Name x np)) none (b₀ :: suite) pos'] [] [] pos) (TSm J (evS C (.try_ bd c none su))) := by
  refine PS.weak (L2N.ps_try_many (tb := fun W => TSm { J with W := W } (evSs C bd)) hs hf tk hb (.cons (ts := fun a cls d => TSm J.nox (evSs C su)) hc hsu .nil)) fun D σ H ⟨w, env, mh, R, o⟩ => ?_
  refine ⟨w, env, mh, R, ?_⟩
  have o : SG J w H (match evSs C bd env mh with
    | .exc x env' mh' => (match C.sub x.c c with
      | some true => (match evSs C su env' mh' with
          | .exc _ _ _ => .stuck
          | o => o)
      | some false => .exc x env' mh'
      | none => .stuck)
    | o => o) D := o
  cases he : evSs C bd env mh with
  | next e m => rw [he] at o; exact o
  | brk e m => rw [he] at o; exact o
  | cont e m => rw [he] at o; exact o
  | ret r m => rw [he] at o; exact o
  | stuck => rw [he] at o; exact o.elim
  | exc y env' mh' =>
    rw [he] at o
    have o : SG J w H (match C.sub y.c c with
      | some true => (match evSs C su env' mh' with
          | .exc _ _ _ => .stuck
          | o => o)
      | some false => .exc y env' mh'
      | none => .stuck) D := o
    intro w' σ' cls d H' kk R' hx
    cases hsb : C.sub y.c c with
    | none => rw [hsb] at o; exact o.elim
    | some b =>
      have hcls := hx.1
      refine ⟨b, by rw [hcls]; exact hsub _ _ hsb, fun hbt a hn => ?_, fun hbf => ?_⟩
      · subst hbt
        rw [hsb] at o
        have o : SG J w H (match evSs C su env' mh' with
          | .exc _ _ _ => .stuck
          | o => o) D := o
        refine ⟨w', env', mh', R', ?_⟩
        generalize evSs C su env' mh' = so at o ⊢
        cases so with
        | next e m => exact fun w1 σ1 H1 fk r => o w1 _ H1 (kk.trans fk) r
        | brk e m => exact fun w1 σ1 H1 fk r => o w1 _ H1 (kk.trans fk) r
        | cont e m => exact fun w1 σ1 H1 fk r => o w1 _ H1 (kk.trans fk) r
        | ret r m => exact o
        | exc z e m => exact o.elim
        | stuck => exact o.elim
      · subst hbf
        rw [hsb] at o
        exact o w' σ' cls d H' kk R' hx
/-- isinstance(e, X), e the error that a suite holds -/
theorem me_isx {i c : Nat} {n cn : Str} {cv : Value} {p p2 p3 pos : Pos} (hX : ∀ a D, J.T.ex = some (a, .ref D, none) → (∃ y, D = J.T.ca y) → CallR X (.builtin "isinstance") (rIsE X.K D a))
    (hsub : ∀ y b, C.sub y c = some b → PySem.W.kitOne X.K (.ref (J.T.ca y)) cv = some b) (hcv : ∃ cV, PE X (.Name cn p3) (tC cV) ∧ ∀ u, RelV cV u → u = cv)
    (hN : X.N[i]? = some n) (hv : Vis X.env.scope n) (hd : (n == ("__debug__" : Str)) = false) (hcd : (n == ("__classdict__" : Str)) = false) (hg : Gl X "isinstance") (hm : X.mg "isinstance" = none) :
    PE X (.Call (.Name "isinstance" p) [.Name n p2, .Name cn p3] [] pos) (TEm J (evE C (.isx i c))) := by
  obtain ⟨cV, hcx, hcu⟩ := hcv
  have get : ∀ {σ H Q}, TEm J (evE C (.isx i c)) σ H Q → ∃ a y b, J.T.ex = some (a, .ref (J.T.ca y), none) ∧ σ[i]? = some (some (V.ref a)) ∧ C.sub y c = some b ∧ Q (.bl b) H := fun {σ H Q} ⟨w, env, mh, R, o⟩ => by
    have o : OG J.T (RvOk J.T) (fun c d H' => J.W c d σ H') w H (match env[i]? with
      | some (some (.xcp x none)) => ofB (C.sub x c) mh
      | _ => .stuck) Q := o
    split at o
    · rename_i y he
      obtain ⟨v, hs, a, cls, d, rfl, e1, e2, e3⟩ := R.e.ok i _ he
      unfold ofB at o
      split at o
      · rename_i b hb
        subst e2
        cases (show d = none from e3)
        exact ⟨a, y, b, e1, hs, hb, o.val R.h (.bl _)⟩
      · exact o.elim
    · exact o.elim
  cases hex : J.T.ex with
  | none => exact ⟨fun pins s σ H Q I h => by obtain ⟨a, y, b, e, _⟩ := get h; rw [hex] at e; cases e⟩
  | some t =>
    obtain ⟨a, cls, d⟩ := t
    by_cases hy : ∃ y, cls = .ref (J.T.ca y) ∧ d = none
    · obtain ⟨y, rfl, rfl⟩ := hy
      refine PE.weak (pe_callB (hX a _ hex ⟨y, rfl⟩) hg hm (by decide +kernel) (pa_cons (pe_var hN hv hd hcd) (pa_cons hcx pa_nil (star_of rfl)) (star_of rfl)) (by decide) (by decide) (star_of rfl) (star_any (es := [.Name cn p3]) rfl)) fun σ H Q h => ?_
      obtain ⟨a', y', b, e, hs, hb, q⟩ := get h
      rw [hex] at e
      injection e with e
      injection e with e1 e2
      subst e1
      injection e2 with e2 _
      refine ⟨_, hs, cV, cv, b, rfl, hcu, ?_, q⟩
      rw [e2]
      exact hsub _ _ hb
    · exact ⟨fun pins s σ H Q I h => by
        obtain ⟨a', y, b, e, _⟩ := get h
        rw [hex] at e
        cases e
        exact absurd ⟨y, rfl, rfl⟩ hy⟩
end
end Mn
end
section
set_option linter.all false
set_option autoImplicit false
set_option maxRecDepth 100000
/-! Mini: is this program's text that text? -/
namespace Mn
open PySem PySem.Spec PyProof.Rows L2

/-- the names of defs (how many parameters), of classes (own ones or built-in), of constants -/
structure Tab where
  fn : Nat → Option (Str × Nat)
  cl : Nat → Option (Str × Bool)
  gl : Nat → Option (Str × PyData)
structure Mc where
  tb : Tab
  N : List Str
  sc : Scope
  ow : Str → Bool
  calm : Bool
  hot : Bool
def visB (sc : Scope) (x : Str) : Bool := match sc.names.lookup x with
  | some .local => true
  | some .cell => true
  | some .free => true
  | _ => false
def locB (sc : Scope) (x : Str) : Bool := match sc.names.lookup x with
  | some .local => true
  | some .cell => true
  | _ => false
def lclB (sc : Scope) (x : Str) : Bool := match sc.names.lookup x with
  | some .local => true
  | _ => false
def glB (sc : Scope) (x : Str) : Bool := match sc.names.lookup x with
  | some .globalImplicit => true
  | _ => false
def odd (x : Str) : Bool := (x == ("__debug__" : Str)) || (x == ("__classdict__" : Str))
/-- a name is read -/
def nameB (m : Mc) (i : Nat) (x : Str) : Bool := decide (m.N[i]? = some x) && visB m.sc x && !odd x
/-- a name is set -/
def setB (m : Mc) (i : Nat) (x : Str) : Bool := decide (m.N[i]? = some x) && locB m.sc x && (m.ow x || lclB m.sc x) && !odd x
def scEq : PyData → PyData → Bool
  | .none, .none => true
  | .bool a, .bool b => a == b
  | .int a, .int b => decide (a = b)
  | .str a, .str b => decide (a = b)
  | _, _ => false
def cstB (d : PyData) (c : Const) : Bool := match d, c with
  | .none, .none => true
  | .bool a, .bool b => a == b
  | .int a, .int b => decide (a = b)
  | .str a, .str b => decide (a = b)
  | _, _ => false
def blkB (N : List Str) (sc scope : Scope) (own : List (Str × Nat)) : Bool :=
  decide (scope.kind = .function) && (scope.names.all fun y => decide (scope.names.lookup y.1 = some y.2)) && (own.all fun p => decide (N[p.2]? = some p.1)) &&
  (scope.names.all fun y => !decide (y.2 = .free) || decide (sc.names.lookup y.1 = some .cell) || decide (sc.names.lookup y.1 = some .free)) &&
  scope.names.all fun y => !(decide (y.2 = .local) || decide (y.2 = .cell)) || (own.map (·.1)).contains y.1 || !N.contains y.1
def ownS (N : List Str) (own : List Nat) : List (Str × Nat) := own.map fun i => (N.getD i Str.empty, i)
def Mc.blk (m : Mc) (scope : Scope) : Mc := { m with sc := relS scope m.sc, ow := fun x => scope.names.lookup x == some .cell, hot := false }
/-- keys and values, one behind the other -/
def weave : List (Option Expr) → List Expr → Option (List Expr)
  | [], [] => some []
  | some k :: ks, v :: vs => (weave ks vs).map fun r => k :: v :: r
  | _, _ => none
mutual
def mtTg : Tg → Mc → Expr → Bool
  | .nm i, m, x => match x with
    | .Name n _ => setB m i n
    | _ => false
  | .nil, m, x => match x with
    | .Tuple [] _ _ => true
    | _ => false
  | .cons t ts, m, x => match x with
    | .Tuple (e :: es) _ _ => ts.seq && mtTg t m e && mtTgs ts m es && plainX e && es.all plainX
    | _ => false
def mtTgs : Tg → Mc → List Expr → Bool
  | .nil, _, [] => true
  | .cons t ts, m, e :: es => mtTg t m e && mtTgs ts m es && plainX e
  | _, _, _ => false
end
structure MtF where
  one : Mc → Expr → Bool
  andL : Mc → List Expr → Bool
  orL : Mc → List Expr → Bool
def MtF.of (one : Mc → Expr → Bool) : MtF := ⟨one, fun m l => match l with
    | [x] => one m x
    | _ => false, fun m l => match l with
    | [x] => one m x
    | _ => false⟩
def isR1 : It → Bool
  | .rng1 _ => true
  | _ => false
def isYes : E → Bool
  | .cst (.bool true) => true
  | _ => false
mutual
def mtP : E → MtF
  | .var i => .of fun m x => match x with
    | .Name n _ => nameB m i n
    | _ => false
  | .cst d => .of fun m x => match x with
    | .Constant c _ _ => cstB d c
    | _ => false
  | .glb k d => .of fun m x => match x with
    | .Name n _ => glB m.sc n && (match m.tb.gl k with
      | some (n', d') => decide (n = n') && scEq d d'
      | none => false)
    | _ => false
  | .and_ a b => ⟨fun m x => match x with
    | .BoolOp .And (y :: z :: r) _ => (mtP a).one m y && (mtP b).andL m (z :: r)
    | _ => false, fun m l => match l with
    | [.BoolOp .And (y :: z :: r) _] => (mtP a).one m y && (mtP b).andL m (z :: r)
    | y :: z :: r => (mtP a).one m y && (mtP b).andL m (z :: r)
    | _ => false, fun m l => match l with
    | [.BoolOp .And (y :: z :: r) _] => (mtP a).one m y && (mtP b).andL m (z :: r)
    | _ => false⟩
  | .or_ a b => ⟨fun m x => match x with
    | .BoolOp .Or (y :: z :: r) _ => (mtP a).one m y && (mtP b).orL m (z :: r)
    | _ => false, fun m l => match l with
    | [.BoolOp .Or (y :: z :: r) _] => (mtP a).one m y && (mtP b).orL m (z :: r)
    | _ => false, fun m l => match l with
    | [.BoolOp .Or (y :: z :: r) _] => (mtP a).one m y && (mtP b).orL m (z :: r)
    | y :: z :: r => (mtP a).one m y && (mtP b).orL m (z :: r)
    | _ => false⟩
  | .not_ a => .of fun m x => match x with
    | .UnaryOp .Not y _ => (mtP a).one m y
    | _ => false
  | .cmp op a b => .of fun m x => match x with
    | .Compare y [op'] [z] _ => decide (op = op') && (mtP a).one m y && (mtP b).one m z && plainX z
    | _ => false
  | .chain op1 op2 a b c => .of fun m x => match x with
    | .Compare y [op1', op2'] [z, u] _ => decide (op1 = op1') && decide (op2 = op2') && (mtP a).one m y && (mtP b).one m z && (mtP c).one m u && plainX u
    | _ => false
  | .bin op a b => .of fun m x => match x with
    | .BinOp y op' z _ => decide (op = op') && (mtP a).one m y && (mtP b).one m z
    | _ => false
  | .cat a b => .of fun m x => match x with
    | .BinOp y .Add z _ => (mtP a).one m y && (mtP b).one m z
    | _ => false
  | .neg a => .of fun m x => match x with
    | .UnaryOp .USub y _ => (mtP a).one m y
    | _ => false
  | .ite c a b => .of fun m x => match x with
    | .IfExp y z u _ => (mtP c).one m y && (mtP a).one m z && (mtP b).one m u
    | _ => false
  | .tup es => .of fun m x => match x with
    | .Tuple xs _ _ => mtEs es m xs
    | _ => false
  | .lst es => .of fun m x => match x with
    | .List xs _ => mtEs es m xs
    | _ => false
  | .dsp es => .of fun m x => match x with
    | .Dict ks vs _ => (match weave ks vs with
      | some l => mtEs es m l && decide (ks.length ≤ 15)
      | none => false)
    | _ => false
  | .idx a b => .of fun m x => match x with
    | .Subscript y z _ => (mtP a).one m y && (mtP b).one m z && plainX z
    | _ => false
  | .slc lo hi a l h => .of fun m x => match x with
    | .Subscript y (.Slice l' h' none _) _ => (mtP a).one m y && (match l' with
      | none => !lo
      | some z => lo && (mtP l).one m z) && (match h' with
      | none => !hi
      | some z => hi && (mtP h).one m z)
    | _ => false
  | .isi a t => .of fun m x => match x with
    | .Call (.Name f _) [y, .Name n _] [] _ => decide (f = ("isinstance" : Str)) && !decide (t = .lt) && decide (n = (t.name : Str)) && glB m.sc f && glB m.sc n && (mtP a).one m y && plainX y
    | _ => false
  | .isx i c => .of fun m x => match x with
    | .Call (.Name f _) [.Name n _, .Name cn _] [] _ => m.hot && decide (f = ("isinstance" : Str)) && nameB m i n && glB m.sc f && glB m.sc cn && (match m.tb.cl c with
      | some (cn', _) => decide (cn = cn')
      | none => false)
    | _ => false
  | .xat _ _ => .of fun _ _ => false
  | .blt b es => .of fun m x => match x with
    | .Call (.Name f _) (y :: ys) [] _ => decide (f = (b.id : Str)) && glB m.sc f && mtEs es m (y :: ys) && (y :: ys).all plainX && (!b.cool || m.calm)
    | _ => false
  | .mth k o es => .of fun m x => match x with
    | .Call (.Attribute y n apos) (z :: zs) [] cpos => decide (n = k.nm) && (mtP o).one m y && mtEs es m (z :: zs) && baseX y && (z :: zs).all plainX && decide ((z :: zs).length < 29) && (apos.endLine == cpos.line)
    | _ => false
  | .popA o es => .of fun m x => match x with
    | .Call (.Attribute y n apos) [z] [] cpos => decide (n = ("pop" : Str)) && (mtP o).one m y && mtEs es m [z] && baseX y && plainX z && (apos.endLine == cpos.line)
    | _ => false
  | .call f es => .of fun m x => match x with
    | .Call (.Name n _) (y :: ys) [] _ => m.calm && glB m.sc n && (match m.tb.fn f with
      | some (n', _) => decide (n = n')
      | none => false) && mtEs es m (y :: ys) && (y :: ys).all plainX
    | _ => false
  | .pcall f es => .of fun m x => match x with
    | .Call (.Name n _) (y :: ys) [] _ => m.calm && glB m.sc n && (match m.tb.fn f with
      | some (n', _) => decide (n = n')
      | none => false) && mtEs es m (y :: ys) && (y :: ys).all plainX
    | _ => false
  | .comp elt tg it c own => .of fun m x => match x with
    | .ListComp y [⟨xt, xi, ifs, as⟩] scope _ => (m.calm || (m.hot && isR1 it && !tg.seq)) && decide (as = 0) && blkB m.N m.sc scope (ownS m.N own) && mtTg tg (m.blk scope) xt && mtIt it m tg xt xi && (match ifs with
      | [] => isYes c
      | [z] => (mtP c).one (m.blk scope) z
      | _ => false) && (mtP elt).one (m.blk scope) y && (tg.slots.all fun j => own.contains j) && plainX xi
    | _ => false
  | .dcomp ek ev tg it c own => .of fun m x => match x with
    | .DictComp y1 y2 [⟨xt, xi, ifs, as⟩] scope _ => m.calm && decide (as = 0) && blkB m.N m.sc scope (ownS m.N own) && mtTg tg (m.blk scope) xt && mtIt it m tg xt xi && (match ifs with
      | [] => isYes c
      | [z] => (mtP c).one (m.blk scope) z
      | _ => false) && (mtP ek).one (m.blk scope) y1 && (mtP ev).one (m.blk scope) y2 && (tg.slots.all fun j => own.contains j) && plainX xi
    | _ => false
  | .lzip a b => .of fun m x => match x with
    | .Call (.Name f _) [.Call (.Name g _) [y, z] [] _] [] _ => m.calm && decide (f = ("list" : Str)) && decide (g = ("zip" : Str)) && glB m.sc f && glB m.sc g && (mtP a).one m y && (mtP b).one m z && plainX y && plainX z
    | _ => false
  | .rev a => .of fun m x => match x with
    | .Subscript y (.Slice none none (some (.UnaryOp .USub (.Constant (.int 1) _ _) _)) _) _ => (mtP a).one m y
    | _ => false
def mtEs : Es → Mc → List Expr → Bool
  | .nil, _, xs => xs.isEmpty
  | .cons e es, m, xs => match xs with
    | x :: xs => (mtP e).one m x && mtEs es m xs && plainX x
    | [] => false
  | .star _ _, _, _ => false
def mtIt : It → Mc → Tg → Expr → Expr → Bool
  | .of e, m, _, _, xi => (mtP e).one m xi
  | .rng1 a, m, _, _, xi => match xi with
    | .Call (.Name f _) [y] [] _ => decide (f = ("range" : Str)) && glB m.sc f && (mtP a).one m y && plainX y
    | _ => false
  | .rng2 a b, m, _, _, xi => match xi with
    | .Call (.Name f _) [y, z] [] _ => decide (f = ("range" : Str)) && glB m.sc f && (mtP a).one m y && (mtP b).one m z && plainX y && plainX z
    | _ => false
  | .zip2 a b, m, tg, xt, xi => match xt, xi with
    | .Tuple _ _ _, .Call (.Name f _) [y, z] [] _ => tg.seq && decide (f = ("zip" : Str)) && glB m.sc f && (mtP a).one m y && (mtP b).one m z && plainX y && plainX z
    | _, _ => false
  | .zip3 a b c, m, tg, xt, xi => match xt, xi with
    | .Tuple _ _ _, .Call (.Name f _) [y, z, u] [] _ => tg.seq && decide (f = ("zip" : Str)) && glB m.sc f && (mtP a).one m y && (mtP b).one m z && (mtP c).one m u && plainX y && plainX z && plainX u
    | _, _ => false
  | .enum a, m, tg, xt, xi => match xt, xi with
    | .Tuple _ _ _, .Call (.Name f _) [y] [] _ => tg.seq && decide (f = ("enumerate" : Str)) && glB m.sc f && (mtP a).one m y && plainX y
    | _, _ => false
end
/-- the value of an assignment: a list comprehension whose store is swapped with its own, or none such -/
def isLC : Expr → Bool
  | .ListComp _ _ _ _ => true
  | _ => false
def noComp : Expr → Bool
  | .ListComp _ _ _ _ => false
  | .SetComp _ _ _ _ => false
  | .DictComp _ _ _ _ _ => false
  | _ => true
def noTup : Expr → Bool
  | .Tuple _ _ _ => false
  | _ => true
mutual
def mtS : S → Mc → Stmt → Bool
  | .expr e, m, s => match s with
    | .Expr x _ => (mtP e).one m x && noComp x
    | _ => false
  | .asg t e, m, s => match s with
    | .Assign [tx] x _ => mtTg t m tx && (mtP e).one m x && (match t with
      | .nm _ => true
      | _ => t.seq && noComp x && noTup x && m.calm)
    | _ => false
  | .asgO i e, m, s => match s with
    | .Assign [.Name n _] x _ => setB m i n && (mtP e).one m x && (isFresh e || isCall e)
    | _ => false
  | .asgH i e, m, s => match s with
    | .Assign [.Name n _] x _ => setB m i n && (mtP e).one m x && (isFresh e || isCall e)
    | _ => false
  | .app i e, m, s => match s with
    | .Expr (.Call (.Attribute (.Name n _) a apos) [v] [] cpos) _ => decide (a = ("append" : Str)) && nameB m i n && (mtP e).one m v && plainX v && (apos.endLine == cpos.line)
    | _ => false
  | .rem i e, m, s => match s with
    | .Expr (.Call (.Attribute (.Name n _) a apos) [v] [] cpos) _ => decide (a = ("remove" : Str)) && nameB m i n && (mtP e).one m v && plainX v && (apos.endLine == cpos.line)
    | _ => false
  | .setI i k v, m, s => match s with
    | .Assign [.Subscript (.Name n _) kx _] vx _ => nameB m i n && (mtP k).one m kx && (mtP v).one m vx && plainX kx
    | _ => false
  | .aug i op e, m, s => match s with
    | .AugAssign (.Name n _) op' v _ => (decide (op = .Add) || decide (op = .Sub)) && decide (op = op') && setB m i n && (mtP e).one m v
    | _ => false
  | .ret e, m, s => match s with
    | .Return (some x) _ => (mtP e).one m x
    | _ => false
  | .retM e, m, s => match s with
    | .Return (some x) _ => (mtP e).one m x && (isFresh e || isCall e || !notVar e)
    | _ => false
  | .retN, _, s => match s with
    | .Return none _ => true
    | _ => false
  | .if_ c a b, m, s => match s with
    | .If x xs ys _ => (mtP c).one m x && mtSs a m xs && mtSs b m ys
    | _ => false
  | .for_ t it body, m, s => match s with
    | .For tx ix xs [] _ => m.calm && mtTg t m tx && mtIt it m t tx ix && mtSs body m xs && plainX ix
    | _ => false
  | .while_ _ c body, m, s => match s with
    | .While x xs [] _ => m.calm && (mtP c).one m x && mtSs body m xs
    | _ => false
  | .brk, _, s => match s with
    | .Break _ => true
    | _ => false
  | .cont, _, s => match s with
    | .Continue _ => true
    | _ => false
  | .pass, _, s => match s with
    | .Pass _ => true
    | _ => false
  | .raise c es, m, s => match es, s with
    | .nil, .Raise (some (.Call (.Name n _) [] [] _)) none _ => m.calm && glB m.sc n && (match m.tb.cl c with
      | some (n', own) => decide (n = n') && own
      | none => false)
    | _, _ => false
  | .try_ body c i su, m, s => match s with
    | .Try xs [.ExceptHandler (some (.Name n _)) nm (y :: ys) _] [] [] _ => m.calm && glB m.sc n && (match m.tb.cl c with
      | some (n', _) => decide (n = n')
      | none => false) && mtSs body m xs && mtSs su { m with calm := false, hot := true } (y :: ys) && (match i, nm with
      | none, none => true
      | some k, some z => decide (m.N[k]? = some z) && lclB m.sc z
      | _, _ => false)
    | _ => false
  | .frz _, _, _ => false
  | .nv, _, _ => true
def mtSs : Ss → Mc → List Stmt → Bool
  | .nil, _, xs => xs.isEmpty
  | .cons s r, m, xs => match s with
    | .frz _ => mtSs r m xs
    | .nv => true
    | s => (match xs with
      | x :: xs => mtS s m x && mtSs r m xs
      | [] => false)
end
end Mn
end
section
set_option linter.all false
set_option autoImplicit false
set_option maxRecDepth 100000
/-! Mini: what is matched, does what the evaluator says: expressions. -/
namespace Mn
open PySem PySem.Spec PyProof.Rows L2

theorem vis_of {sc : Scope} {x : Str} (h : visB sc x = true) : Vis sc x := by
  unfold visB at h
  split at h
  · rename_i e; exact .inl e
  · rename_i e; exact .inr (.inl e)
  · rename_i e; exact .inr (.inr e)
  · cases h
theorem loc_of {sc : Scope} {x : Str} (h : locB sc x = true) : Loc sc x := by
  unfold locB at h
  split at h
  · rename_i e; exact .inl e
  · rename_i e; exact .inr e
  · cases h
theorem lcl_of {sc : Scope} {x : Str} (h : lclB sc x = true) : sc.names.lookup x = some .local := by
  unfold lclB at h
  split at h
  · rename_i e; exact e
  · cases h
theorem gl_of {sc : Scope} {x : Str} (h : glB sc x = true) : sc.names.lookup x = some .globalImplicit := by
  unfold glB at h
  split at h
  · rename_i e; exact e
  · cases h
theorem odd_of {x : Str} (h : odd x = false) : (x == ("__debug__" : Str)) = false ∧ (x == ("__classdict__" : Str)) = false := by
  unfold odd at h
  rw [Bool.or_eq_false_iff] at h
  exact h
/-- the class's value -/
def clsV (T : Stat) (c : Nat) (x : Str) (own : Bool) : Value := if own then .ref (T.ca c) else .type x.toString
/-- where code is matched: the names, what they mean -/
structure Cnd (m : Mc) (X : Cx) (J : Jd) (C : CallF) : Prop where
  sc : X.env.scope = m.sc
  N : X.N = m.N
  ow : ∀ x, m.ow x = true → X.fn x = true
  cm : X.calm = m.calm
  g : J.T.g = ⟨X.prog, X.w⟩
  u : X.A.units + 200 < cLine
  nd : X.N.Nodup
  fk : X.env.scope.kind = .function
  tk : L2N.Takes X J.W
  bl : ∀ b : Blt, X.mg b.id = none
  ty : ∀ t : Ty, t ≠ .lt → X.mg t.name = none
  bi : X.mg "isinstance" = none
  br : X.mg "range" = none
  bz : X.mg "zip" = none
  be : X.mg "enumerate" = none
  fn : ∀ f x n, m.tb.fn f = some (x, n) → X.calm = true → FnAt X J.T x n (C.call f)
  gl : ∀ k x d, m.tb.gl k = some (x, d) → ∃ v u, X.mg x = some u ∧ RelV v u ∧ (x == ("__debug__" : Str)) = false ∧ ∀ F H, Dv J.T.g F H v d
  cx : X.calm = true → J.T.ex = none
  cn : ∀ c x own, m.tb.cl c = some (x, own) → (x == ("__debug__" : Str)) = false ∧ ∃ cv : Value, (∃ v : V, RelV v cv ∧ ∀ u, RelV v u → u = cv) ∧ ((X.mg x = some cv) ∨ (X.mg x = none ∧ bootBuiltins x = some cv ∧ x ≠ "__name__")) ∧ (own = true → Kl0 X x (J.T.ca c)) ∧
    ∀ y b, C.sub y c = some b → PySem.W.exmOne X.K (.ref (J.T.ca y)) cv = some b ∧ PySem.W.kitOne X.K (.ref (J.T.ca y)) cv = some b
  hc : m.hot = true → m.calm = false
  ht : m.hot = true → L2H.HotC X
  xi : m.hot = true → ∀ a D, J.T.ex = some (a, .ref D, none) → (∃ y, D = J.T.ca y) → CallR X (.builtin "isinstance") (rIsE X.K D a)
section
variable {m : Mc} {X : Cx} {J : Jd} {C : CallF}
theorem Cnd.gl' (k : Cnd m X J C) {x : Str} (h : glB m.sc x = true) : Gl X x := by
  show X.env.scope.names.lookup x = _
  rw [k.sc]; exact gl_of h
structure NameOk (X : Cx) (i : Nat) (x : Str) : Prop where
  at_ : X.N[i]? = some x
  vis : Vis X.env.scope x
  d : (x == ("__debug__" : Str)) = false
  cd : (x == ("__classdict__" : Str)) = false
theorem Cnd.name (k : Cnd m X J C) {i : Nat} {x : Str} (h : nameB m i x = true) : NameOk X i x := by
  unfold nameB at h
  simp only [Bool.and_eq_true, Bool.not_eq_true', decide_eq_true_eq] at h
  obtain ⟨⟨h1, h2⟩, h3⟩ := h
  exact ⟨by rw [k.N]; exact h1, by rw [k.sc]; exact vis_of h2, (odd_of h3).1, (odd_of h3).2⟩
structure SetOk (X : Cx) (i : Nat) (x : Str) : Prop where
  at_ : X.N[i]? = some x
  loc : Loc X.env.scope x
  fn : X.fn x = true ∨ X.env.scope.names.lookup x = some .local
  d : (x == ("__debug__" : Str)) = false
  cd : (x == ("__classdict__" : Str)) = false
theorem Cnd.set (k : Cnd m X J C) {i : Nat} {x : Str} (h : setB m i x = true) : SetOk X i x := by
  unfold setB at h
  simp only [Bool.and_eq_true, Bool.not_eq_true', decide_eq_true_eq, Bool.or_eq_true] at h
  obtain ⟨⟨⟨h1, h2⟩, h3⟩, h4⟩ := h
  refine ⟨by rw [k.N]; exact h1, by rw [k.sc]; exact loc_of h2, ?_, (odd_of h4).1, (odd_of h4).2⟩
  rcases h3 with h3 | h3
  · exact .inl (k.ow x h3)
  · exact .inr (by rw [k.sc]; exact lcl_of h3)
theorem blk_of {N : List Str} {sc scope : Scope} {own : List (Str × Nat)} (h : blkB N sc scope own = true) : BlkOk N sc scope own := by
  unfold blkB at h
  simp only [Bool.and_eq_true, decide_eq_true_eq, List.all_eq_true] at h
  obtain ⟨⟨⟨⟨h1, h2⟩, h3⟩, h4⟩, h5⟩ := h
  refine ⟨h1, h2, h3, fun y hy hf => ?_, fun y hy hl => ?_⟩
  · have := h4 y hy
    simp only [Bool.or_eq_true, Bool.not_eq_true', decide_eq_true_eq, decide_eq_false_iff_not] at this
    rcases this with (this | this) | this
    · exact absurd hf this
    · exact .inl this
    · exact .inr this
  · have := h5 y hy
    simp only [Bool.or_eq_true, Bool.not_eq_true', Bool.or_eq_false_iff, decide_eq_false_iff_not] at this
    rcases this with (this | this) | this
    · rcases hl with hl | hl
      · exact absurd hl this.1
      · exact absurd hl this.2
    · exact .inl (by simpa using this)
    · exact .inr (by simpa using this)
theorem ownS_snd {N : List Str} {own : List Nat} : (ownS N own).map (·.2) = own := by
  unfold ownS
  rw [List.map_map]
  induction own with
  | nil => rfl
  | cons a l ih => simp only [List.map_cons, ih]; rfl
theorem assign_plain {env : Env} {e : Expr} {es : List Expr} (h : plainX e = true) : assignEach (e :: es) env = (false, assign e env) :: assignEach es env := by cases e <;> first | rfl | cases h
theorem assign_len {env : Env} : ∀ {es : List Expr}, (assignEach es env).length = es.length
  | [] => rfl
  | e :: es => by cases e <;> (show (assignEach es env).length + 1 = es.length + 1; rw [assign_len])
theorem assign_find {env : Env} : ∀ {es : List Expr}, es.all plainX = true → (assignEach es env).findIdx? (·.1) = none
  | [], _ => rfl
  | e :: es, h => by
    rw [List.all_cons, Bool.and_eq_true] at h
    rw [assign_plain h.1, List.findIdx?_cons, assign_find h.2]
    rfl
mutual
theorem sd_tg : ∀ (t : Tg) (m : Mc) (X : Cx) (x : Expr), Cnd m X J C → (t.seq = true → X.calm = true) → mtTg t m x = true → PG X x (TGm J t)
  | .nm i, m, X, x, k, _, h => by
    unfold mtTg at h
    split at h
    · obtain ⟨a, b, c, _, _⟩ := k.set h
      exact mg_nm k.nd a b c
    · cases h
  | .nil, m, X, x, k, hc, h => by
    unfold mtTg at h
    split at h
    · exact mg_seq (hc rfl) mgs_nil rfl rfl rfl
    · cases h
  | .cons t ts, m, X, x, k, hc, h => by
    unfold mtTg at h
    split at h
    · rename_i e es _ _
      simp only [Bool.and_eq_true] at h
      obtain ⟨⟨⟨⟨h1, h2⟩, h3⟩, h4⟩, h5⟩ := h
      have hcc := hc h1
      have hl : es.length = ts.len := mtTgs_len ts m es h3 h1
      exact mg_seq hcc (mgs_cons (sd_tg t m X e k (fun _ => hcc) h2) (sd_tgs ts m X es k hcc h3) (by rw [assign_plain h4]; rfl)) h1 (by rw [assign_len]; show es.length + 1 = ts.len + 1; rw [hl]) (assign_find (by rw [List.all_cons, h4, h5]; rfl))
    · cases h
theorem sd_tgs : ∀ (t : Tg) (m : Mc) (X : Cx) (xs : List Expr), Cnd m X J C → X.calm = true → mtTgs t m xs = true → PGs X xs (TGsm J t)
  | .nil, m, X, [], k, _, h => mgs_nil
  | .nil, m, X, _ :: _, k, _, h => by cases h
  | .nm i, m, X, [], k, _, h => by cases h
  | .nm i, m, X, _ :: _, k, _, h => by cases h
  | .cons t ts, m, X, [], k, _, h => by cases h
  | .cons t ts, m, X, e :: es, k, hc, h => by
    unfold mtTgs at h
    simp only [Bool.and_eq_true] at h
    obtain ⟨⟨h1, h2⟩, h3⟩ := h
    exact mgs_cons (sd_tg t m X e k (fun _ => hc) h1) (sd_tgs ts m X es k hc h2) (by rw [assign_plain h3]; rfl)
theorem mtTgs_len : ∀ (t : Tg) (m : Mc) (xs : List Expr), mtTgs t m xs = true → t.seq = true → xs.length = t.len
  | .nil, m, [], h, _ => rfl
  | .nil, m, _ :: _, h, _ => by cases h
  | .nm i, m, [], h, _ => by cases h
  | .nm i, m, _ :: _, h, _ => by cases h
  | .cons t ts, m, [], h, _ => by cases h
  | .cons t ts, m, e :: es, h, hs => by
    unfold mtTgs at h
    simp only [Bool.and_eq_true] at h
    show es.length + 1 = ts.len + 1
    rw [mtTgs_len ts m es h.1.2 hs]
end
end
end Mn
end
section
set_option linter.all false
set_option autoImplicit false
set_option maxRecDepth 100000
/-! Mini: what is matched, does what the evaluator says: expressions. -/
namespace Mn
open PySem PySem.Spec PyProof.Rows L2

section
variable {m : Mc} {X : Cx} {J : Jd} {C : CallF}
theorem takes_nox {X : Cx} : L2N.Takes X (fun _ _ _ _ => False) := fun u s' ⟨_, _, _, _, _, _, _, _, _, _, _, _, _, _, _, _, h⟩ => h.elim
theorem Cnd.blk (k : Cnd m X J C) {scope : Scope} (hk : scope.kind = .function) (s : Shared) (H : Hp) (Ca : Addr) (cl : List (Str × Addr)) (fp : List Addr) : Cnd (m.blk scope) (X.blk s H scope (compEnvC scope cl Ca X.env) fp) J.nox C where
  sc := by
    show relabel scope X.env = relS scope m.sc
    rw [← k.sc]
    rfl
  N := k.N
  ow := fun x h => h
  cm := k.cm
  g := k.g
  u := k.u
  nd := k.nd
  fk := hk
  tk := takes_nox
  bl := k.bl
  ty := k.ty
  bi := k.bi
  br := k.br
  bz := k.bz
  be := k.be
  fn := fun f x n h hcc => let F := k.fn f x n h hcc; ⟨F.fn, F.db, F.len⟩
  gl := k.gl
  cx := k.cx
  cn := fun c x own h => by
    obtain ⟨h1, cv, h2, h3, h4, h5⟩ := k.cn c x own h
    exact ⟨h1, cv, h2, h3, fun q => let K := h4 q; ⟨K.ex, K.gl, K.kp, K.sb, K.ty, K.db⟩, h5⟩
  hc := fun h => by cases h
  ht := fun h => by cases h
  xi := fun h => by cases h
/-- an expression does what the evaluator says -/
structure EOk (X : Cx) (J : Jd) (C : CallF) (e : E) (x : Expr) : Prop where
  pe : PE X x (TEm J (evE C e))
  pt : PT X x (TTm J (evT C e))
  po : (isFresh e || isCall e) = true → PE X x (TEo J C e)
  as : ∀ (i : Nat) (y : Str) (p pos : Pos), SetOk X i y → AsgOk X (.Name y p) x pos (TEm J (evE C e)) (gName i) ∧ ((isFresh e || isCall e) = true → AsgOk X (.Name y p) x pos (TEo J C e) (gName i))
theorem swap_no {x : Expr} {t : Option Expr} {l : Nat} {env : Env} (h : noComp x = true) : swapsWith x t l env = pure false := by cases x <;> first | rfl | cases h
theorem asg_plain {x : Expr} {te : TE} (nd : X.N.Nodup) (hx : noComp x = true) (pe : PE X x te) (i : Nat) (y : Str) (p pos : Pos) (so : SetOk X i y) : AsgOk X (.Name y p) x pos te (gName i) := ps_set nd so.at_ so.loc pe (swap_no hx) so.fn
/-- by its head, its truth is its value's -/
def valX : Expr → Bool
  | .UnaryOp .Not _ _ => false
  | .BoolOp _ _ _ => false
  | .IfExp _ _ _ _ => false
  | .Compare _ _ _ _ => false
  | _ => true
theorem isTrue_val {x : Expr} {env : Env} (h : valX x = true) : ∀ whole, isTrue x env whole = (do let v ← whole; standAt x.pos; holding [v] (truthy v)) := by
  intro whole
  cases x <;> first | rfl | cases h | skip
  rename_i op y p
  cases op <;> first | rfl | cases h
theorem EOk.plain {e : E} {x : Expr} (nd : X.N.Nodup) (hx : noComp x = true) (hf : (isFresh e || isCall e) = false) (pe : PE X x (TEm J (evE C e))) (pt : PT X x (TTm J (evT C e))) : EOk X J C e x :=
  ⟨pe, pt, (fun h => absurd h (by rw [hf]; simp)), fun i y p pos so => ⟨asg_plain nd hx pe i y p pos so, (fun h => absurd h (by rw [hf]; simp))⟩⟩
theorem EOk.val {e : E} {x : Expr} (nd : X.N.Nodup) (hx : noComp x = true) (hv : valX x = true) (hf : (isFresh e || isCall e) = false) (hm : (evP C e).2 = (tv (evP C e).1).2) (pe : PE X x (TEm J (evE C e))) : EOk X J C e x :=
  .plain nd hx hf pe (mt_val pe hm (isTrue_val hv))
theorem TEo_f {e : E} (h : isFresh e = true) : TEo J C e = TEf J (evE C e) := if_pos h
theorem TEo_c {e : E} (h : isFresh e = false) : TEo J C e = TEc J (evE C e) := if_neg (by rw [h]; simp)
theorem EOk.fresh {e : E} {x : Expr} (nd : X.N.Nodup) (hx : noComp x = true) (hv : valX x = true) (hf : isFresh e = true) (hm : (evP C e).2 = (tv (evP C e).1).2) (pf : PE X x (TEf J (evE C e))) : EOk X J C e x := by
  have pe : PE X x (TEm J (evE C e)) := PE.weak pf fun _ _ _ h => TEf.tem h
  have po : PE X x (TEo J C e) := by rw [TEo_f hf]; exact pf
  exact ⟨pe, mt_val pe hm (isTrue_val hv), fun _ => po, fun i y p pos so => ⟨asg_plain nd hx pe i y p pos so, fun _ => asg_plain nd hx po i y p pos so⟩⟩
theorem EOk.call {e : E} {x : Expr} (nd : X.N.Nodup) (hx : noComp x = true) (hv : valX x = true) (hf : isFresh e = false) (hm : (evP C e).2 = (tv (evP C e).1).2) (pf : PE X x (TEc J (evE C e))) : EOk X J C e x := by
  have pe : PE X x (TEm J (evE C e)) := PE.weak pf fun _ _ _ h => TEc.tem h
  have po : PE X x (TEo J C e) := by rw [TEo_c hf]; exact pf
  exact ⟨pe, mt_val pe hm (isTrue_val hv), fun _ => po, fun i y p pos so => ⟨asg_plain nd hx pe i y p pos so, fun _ => asg_plain nd hx po i y p pos so⟩⟩
/-- a chain of and, of or -/
structure AOk (X : Cx) (J : Jd) (C : CallF) (op : BoolOp) (e : E) (xs : List Expr) : Prop where
  pe : ∀ pos, PE X (.BoolOp op xs pos) (TEm J (evE C e))
  pw : ∀ pos, PW X (.BoolOp op xs pos) (TTm J (evT C e))
theorem AOk.one {op : BoolOp} {e : E} {x : Expr} (h : EOk X J C e x) : AOk X J C op e [x] := ⟨fun pos => pe_one h.pe, fun pos => by cases op; exact pw_and1 h.pt; exact pw_or1 h.pt⟩
theorem cst_ok {d : PyData} {c : Const} {j : Nat} {pos : Pos} (h : cstB d c = true) : PE X (.Constant c j pos) (TEm J (evE C (.cst d))) := by
  unfold cstB at h
  split at h
  · exact me_none
  · have := eq_of_beq h; subst this; exact me_bool
  · have := of_decide_eq_true h; subst this; exact me_int
  · have := of_decide_eq_true h; subst this; exact me_str
  · cases h
theorem mt_cst {d : PyData} {x : Expr} (ha : PE X x (TEm J (evE C (.cst d)))) (he : ∀ whole, isTrue x X.env whole = (do let v ← whole; standAt x.pos; holding [v] (truthy v))) : PT X x (TTm J (evT C (.cst d))) := by
  refine mt_val ha ?_ he
  funext env mh
  rfl
theorem scEq_eq {a b : PyData} (h : scEq a b = true) : a = b := by
  unfold scEq at h
  split at h
  · rfl
  · rw [eq_of_beq h]
  · rw [of_decide_eq_true h]
  · rw [of_decide_eq_true h]
  · cases h
theorem glb_ok {k : Nat} {d : PyData} {n : Str} {pos : Pos} (K : Cnd m X J C) (hg : glB m.sc n = true) (h : (match m.tb.gl k with
      | some (n', d') => decide (n = n') && scEq d d'
      | none => false) = true) : PE X (.Name n pos) (TEm J (evE C (.glb k d))) := by
  split at h
  · rename_i n' d' e
    rw [Bool.and_eq_true] at h
    obtain ⟨h1, h2⟩ := h
    have := of_decide_eq_true h1; subst this
    have := scEq_eq h2; subst this
    obtain ⟨v, u, hm, r, hd, hv⟩ := K.gl k n d e
    exact PE.weak (pe_glob (K.gl' hg) hm r hd) fun σ H Q ⟨w, env, mh, R, o⟩ => o.val R.h (hv _ _)
  · cases h
theorem fn_match {f : Nat} {n : Str} (h : (match m.tb.fn f with
      | some (n', _) => decide (n = n')
      | none => false) = true) : ∃ k, m.tb.fn f = some (n, k) := by
  split at h
  · rename_i n' k e
    have := of_decide_eq_true h; subst this
    exact ⟨k, e⟩
  · cases h
theorem cl_match {c : Nat} {n : Str} (h : (match m.tb.cl c with
      | some (n', _) => decide (n = n')
      | none => false) = true) : ∃ own, m.tb.cl c = some (n, own) := by
  split at h
  · rename_i n' k e
    have := of_decide_eq_true h; subst this
    exact ⟨k, e⟩
  · cases h
end
end Mn
end
section
set_option linter.all false
set_option autoImplicit false
set_option maxRecDepth 100000
/-! Mini: dict displays; what is matched, does what the evaluator says: expressions. -/
namespace Mn
open PySem PySem.Spec PyProof.Rows L2

theorem OG.bindAt {T : Stat} {α β γ δ : Type} {rel : Wd → Hp → β → α → Prop} {rel' : Wd → Hp → δ → γ → Prop} {W : XK} {w w0 : Wd} {H H0 : Hp} {o : Out α} {k : α → MH → Out γ} {Q : δ → Hp → Prop} (x : Ext w0 H0 w H) (h : OG T rel' W w0 H0 (o.bind k) Q) :
    OG T rel W w H o (fun b H1 => ∃ w1 a mh1, Ext w H w1 H1 ∧ RelH T w1 mh1 H1 ∧ rel w1 H1 b a ∧ OG T rel' W w0 H0 (k a mh1) Q) := by
  cases o with
  | ok a mh => exact fun w' b H' x r q => ⟨w', a, mh, x, r, q, h⟩
  | exc y mh => exact fun w' c d H' x' r q => h w' c d H' (x.trans x') r q
  | stuck => exact h
def flat : List (V × V) → List V
  | [] => []
  | (k, v) :: r => k :: v :: flat r
section
variable {m : Mc} {X : Cx} {J : Jd} {C : CallF}
theorem putAll_of {g : Pw} {F : Addr → Prop} {H : Hp} : ∀ {ps : List (V × V)} {ds : List PyData} {acc r : List (PyData × PyData)} {accV : List (Key × V)}, DvA g F H (flat ps) ds → putAll ds acc = some r → DvK g F H accV acc →
    ∃ kvs : List (Key × V), ps = kvs.map (fun kv => (kV kv.1, kv.2)) ∧ DvK g F H (mergeK accV kvs) r ∧ 2 * kvs.length = ds.length
  | [], _, acc, r, accV, .nil, e, q => by
    cases (Option.some.inj (show some acc = some r from e))
    exact ⟨[], rfl, q, rfl⟩
  | (k, v) :: ps, _, acc, r, accV, .cons (d := dk) rk (.cons (d := dv) (ds := ds) rv t), e, q => by
    have e : (if isKey1 dk then putAll ds (dput acc dk dv) else none) = some r := e
    split at e
    · rename_i hk
      obtain ⟨key, rfl⟩ := isKey1_of hk
      have ek := keyV (.inl rk)
      subst ek
      obtain ⟨kvs, e1, e2, e3⟩ := putAll_of t e (dvK_put key rv q)
      refine ⟨(key, v) :: kvs, by rw [e1]; rfl, e2, ?_⟩
      simp only [List.length_cons]
      omega
    · cases e
structure PsOk (X : Cx) (J : Jd) (C : CallF) (es : Es) (ks : List (Option Expr)) (vs : List Expr) : Prop where
  ok : ∃ trs, (∀ pos, PPs X pos ks vs trs) ∧ ∀ σ H (Q' : List (V × V) → Hp → Prop), TDm J (evEs C es) σ H (fun zs H' => ∀ ps, flat ps = zs → Q' ps H') → tPairs trs σ H Q'
theorem PsOk.nil : PsOk X J C .nil [] [] := ⟨[], fun _ => pps_nil, fun σ H Q' ⟨w, env, mh, R, o⟩ => (OG.now (rel := relDs J.T.g) o R.h DvA.nil : ∀ ps, flat ps = [] → Q' ps H) [] rfl⟩
theorem PsOk.cons {k v : E} {es : Es} {xk xv : Expr} {ks : List (Option Expr)} {vs : List Expr} (hk : PE X xk (TEm J (evE C k))) (hv : PE X xv (TEm J (evE C v))) (h : PsOk X J C es ks vs) : PsOk X J C (.cons k (.cons v es)) (some xk :: ks) (xv :: vs) := by
  obtain ⟨trs, h1, h2⟩ := h.ok
  refine ⟨(TEm J (evE C k), TEm J (evE C v)) :: trs, fun pos => pps_cons hk hv (h1 pos), fun σ H Q' ⟨w, env, mh, R, o⟩ => ?_⟩
  have o : OG J.T (relDs J.T.g) (fun c d H' => J.W c d σ H') w H (((evP C k).1 env mh).bind fun x mh => match x with
      | .dat d => (evEs C (.cons v es) env mh).bind fun ds mh => .ok (d :: ds) mh
      | _ => .stuck) (fun zs H' => ∀ ps, flat ps = zs → Q' ps H') := o
  refine ⟨w, env, mh, R, (OG.bind (rel := RvOk J.T) o).mono fun x H1 ⟨w1, rv, mh1, _, x1, R1, r1, o1⟩ => ?_⟩
  cases rv with
  | dat d =>
    have o1 : OG J.T (relDs J.T.g) (fun c d H' => J.W c d σ H') w1 H1 ((((evP C v).1 env mh1).bind fun x mh => match x with
        | .dat d => (evEs C es env mh).bind fun ds mh => .ok (d :: ds) mh
        | _ => .stuck).bind fun ds mh => .ok (d :: ds) mh) (fun zs H' => ∀ ps, flat ps = zs → Q' ps H') := o1
    rw [Out.bind_assoc] at o1
    refine ⟨w1, env, mh1, R.ext x1 R1, (OG.bind (rel := RvOk J.T) o1).mono fun y H2 ⟨w2, ru, mh2, _, x2, R2, r2, o2⟩ => ?_⟩
    cases ru with
    | dat e =>
      have o2 : OG J.T (relDs J.T.g) (fun c d H' => J.W c d σ H') w2 H2 (((evEs C es env mh2).bind fun ds mh => .ok (e :: ds) mh).bind fun ds mh => .ok (d :: ds) mh) (fun zs H' => ∀ ps, flat ps = zs → Q' ps H') := o2
      rw [Out.bind_assoc] at o2
      refine h2 σ H2 (fun ps H3 => Q' ((x, y) :: ps) H3) ⟨w2, env, mh2, (R.ext x1 R1).ext x2 R2, (OG.bind (rel := relDs J.T.g) o2).mono fun zs H3 ⟨w3, ds, mh3, _, x3, R3, r3, o3⟩ ps ep => ?_⟩
      exact OG.now (rel := relDs J.T.g) o3 R3 (DvA.cons (x3.dv (x2.dv r1)) (DvA.cons (x3.dv r2) r3)) ((x, y) :: ps) (by rw [← ep]; rfl)
    | _ => exact o2.elim
  | _ => exact o1.elim
theorem mf_dsp {es : Es} {ks : List (Option Expr)} {vs : List Expr} {pos : Pos} (h : PsOk X J C es ks vs) (h0 : ks ≠ []) (hall : ks.all (·.isSome) = true) (hl : ks.length = vs.length) (h15 : ks.length ≤ 15) : PE X (.Dict ks vs pos) (TEf J (evE C (.dsp es))) := by
  obtain ⟨trs, h1, h2⟩ := h.ok
  have run : ∀ σ H Q, TEf J (evE C (.dsp es)) σ H Q → tDisp trs σ H Q := fun σ H Q ⟨w, env, mh, R, o⟩ => by
    have o : OG J.T (relF J.T H) (fun c d H' => J.W c d σ H') w H ((evEs C es env mh).bind fun ds mh => ofD (dspD ds) mh) Q := o
    intro p hp
    have hC : p ∉ w.cs := fun z => by obtain ⟨o, e⟩ := R.h.thC p z; rw [hp] at e; cases e
    have hF : ¬ w.F p := fun z => by obtain ⟨o, e⟩ := R.h.thF p z; rw [hp] at e; cases e
    refine h2 σ (upd H p (.dK [])) _ ⟨w, env, mh, R.lay hp, (OG.bindAt (w := w) (H := upd H p (.dK [])) (rel := relDs J.T.g) (Ext.lay hp) o).mono fun zs H2 ⟨w1, ds, mh1, x1, R1, r1, o1⟩ ps ep => ?_⟩
    subst ep
    have h1p : H2 p = some (.dK []) := x1.there upd_same hC
    refine ⟨h1p, ?_⟩
    unfold ofD at o1
    split at o1
    · rename_i d hd
      unfold dspD at hd
      split at hd
      · rename_i h30
        have h30 := of_decide_eq_true h30
        obtain ⟨r, hr, rfl⟩ := Option.map_eq_some_iff.mp hd
        obtain ⟨kvs, e1, e2, e3⟩ := putAll_of r1 hr .nil
        have hC1 := x1.nc (o := .dK []) upd_same hC
        have hF1 := x1.nF (o := .dK []) upd_same hC hF
        refine ⟨kvs, e1, by omega, ?_⟩
        have xx : Ext w H w1 H2 := (Ext.lay (w := w) (o := .dK []) hp).trans x1
        exact o1 w1 (.ref p) _ (xx.over hp) (R1.over hC1 hF1) ⟨p, _, rfl, rfl, hp, hC1, hF1, .inl ⟨_, upd_same, e2.over hF1⟩⟩
      · cases hd
    · exact o1.elim
  cases ks with
  | nil => exact absurd rfl h0
  | cons k ks => exact PE.weak (pe_disp (h1 pos) hall hl (by simp) h15) run
theorem mf_dsp0 {pos : Pos} : PE X (.Dict [] [] pos) (TEf J (evE C (.dsp .nil))) :=
  PE.weak pe_dnewK fun σ H Q ⟨w, env, mh, R, o⟩ p hp => NewF.fresh (T := J.T) (d := .dict []) (mh := mh) o R.h (fun _ h => h) (.dK p [] [] hp .nil)
/-- by its one form -/
abbrev E3 (m : Mc) (X : Cx) (J : Jd) (C : CallF) (e : E) : Prop := (∀ x, (mtP e).one m x = true → EOk X J C e x) ∧ (∀ xs, (mtP e).andL m xs = true → AOk X J C .And e xs) ∧ ∀ xs, (mtP e).orL m xs = true → AOk X J C .Or e xs
theorem E3.of {e : E} {f : Mc → Expr → Bool} (hf : mtP e = MtF.of f) (h : ∀ x, f m x = true → EOk X J C e x) : E3 m X J C e := by
  unfold E3
  rw [hf]
  refine ⟨h, fun xs hx => ?_, fun xs hx => ?_⟩
  · have hx : (match (generalizing := false) xs with
      | [x] => f m x
      | _ => false) = true := hx
    split at hx
    · exact .one (h _ hx)
    · cases hx
  · have hx : (match (generalizing := false) xs with
      | [x] => f m x
      | _ => false) = true := hx
    split at hx
    · exact .one (h _ hx)
    · cases hx
theorem weave_ok : ∀ {ks : List (Option Expr)} {vs l : List Expr}, weave ks vs = some l → ks.all (·.isSome) = true ∧ ks.length = vs.length ∧ l.length = 2 * ks.length
  | [], [], l, h => by cases (Option.some.inj (show some [] = some l from h)); exact ⟨rfl, rfl, rfl⟩
  | [], _ :: _, l, h => by cases h
  | none :: ks, _, l, h => by cases h
  | some k :: ks, [], l, h => by cases h
  | some k :: ks, v :: vs, l, h => by
    obtain ⟨r, h1, rfl⟩ := Option.map_eq_some_iff.mp (show (weave ks vs).map (fun r => k :: v :: r) = some l from h)
    obtain ⟨a, b, c⟩ := weave_ok h1
    refine ⟨by simpa using a, by simp [b], by simp only [List.length_cons]; omega⟩
theorem plain_dict {es : Es} {ks : List (Option Expr)} {vs : List Expr} {pos : Pos} : True := trivial
mutual
theorem sdE : ∀ (e : E) (m : Mc) (X : Cx) (J : Jd), Cnd m X J C → E3 m X J C e
  | .var i, m, X, J, k => E3.of rfl fun x h => by
    split at h
    · obtain ⟨a, b, c, d⟩ := k.name h
      exact .val k.nd rfl rfl rfl rfl (me_var a b c d)
    · cases h
  | .cst d, m, X, J, k => E3.of rfl fun x h => by
    split at h
    · have p := cst_ok (X := X) (J := J) (C := C) (j := ‹_›) (pos := ‹_›) h
      exact .plain k.nd rfl rfl p (mt_cst p (isTrue_val rfl))
    · cases h
  | .glb g d, m, X, J, k => E3.of rfl fun x h => by
    split at h
    · rw [Bool.and_eq_true] at h
      exact .val k.nd rfl rfl rfl rfl (glb_ok k h.1 h.2)
    · cases h
  | .and_ a b, m, X, J, k => by
    have A := sdE a m X J k
    have B := sdE b m X J k
    have core : ∀ {y z : Expr} {r : List Expr}, ((mtP a).one m y && (mtP b).andL m (z :: r)) = true → AOk X J C .And (.and_ a b) (y :: z :: r) := fun {y z r} h => by
      rw [Bool.and_eq_true] at h
      have ha := A.1 _ h.1
      have hb := B.2.1 _ h.2
      exact ⟨fun pos => me_and ha.pe (hb.pe pos), fun pos => mw_and ha.pt (hb.pw pos)⟩
    have one : ∀ x, (mtP (.and_ a b)).one m x = true → EOk X J C (.and_ a b) x := fun x h => by
      have h : (match (generalizing := false) x with
        | .BoolOp .And (y :: z :: r) _ => (mtP a).one m y && (mtP b).andL m (z :: r)
        | _ => false) = true := h
      split at h
      · exact .plain k.nd rfl rfl ((core h).pe _) ((core h).pw _).pt
      · cases h
    refine ⟨one, fun xs h => ?_, fun xs h => ?_⟩
    · have h : (match (generalizing := false) xs with
        | [.BoolOp .And (y :: z :: r) _] => (mtP a).one m y && (mtP b).andL m (z :: r)
        | y :: z :: r => (mtP a).one m y && (mtP b).andL m (z :: r)
        | _ => false) = true := h
      split at h
      · exact .one (one _ h)
      · exact core h
      · cases h
    · have h : (match (generalizing := false) xs with
        | [.BoolOp .And (y :: z :: r) _] => (mtP a).one m y && (mtP b).andL m (z :: r)
        | _ => false) = true := h
      split at h
      · exact .one (one _ h)
      · cases h
  | .or_ a b, m, X, J, k => by
    have A := sdE a m X J k
    have B := sdE b m X J k
    have core : ∀ {y z : Expr} {r : List Expr}, ((mtP a).one m y && (mtP b).orL m (z :: r)) = true → AOk X J C .Or (.or_ a b) (y :: z :: r) := fun {y z r} h => by
      rw [Bool.and_eq_true] at h
      have ha := A.1 _ h.1
      have hb := B.2.2 _ h.2
      exact ⟨fun pos => me_or ha.pe (hb.pe pos), fun pos => mw_or ha.pt (hb.pw pos)⟩
    have one : ∀ x, (mtP (.or_ a b)).one m x = true → EOk X J C (.or_ a b) x := fun x h => by
      have h : (match (generalizing := false) x with
        | .BoolOp .Or (y :: z :: r) _ => (mtP a).one m y && (mtP b).orL m (z :: r)
        | _ => false) = true := h
      split at h
      · exact .plain k.nd rfl rfl ((core h).pe _) ((core h).pw _).pt
      · cases h
    refine ⟨one, fun xs h => ?_, fun xs h => ?_⟩
    · have h : (match (generalizing := false) xs with
        | [.BoolOp .Or (y :: z :: r) _] => (mtP a).one m y && (mtP b).orL m (z :: r)
        | _ => false) = true := h
      split at h
      · exact .one (one _ h)
      · cases h
    · have h : (match (generalizing := false) xs with
        | [.BoolOp .Or (y :: z :: r) _] => (mtP a).one m y && (mtP b).orL m (z :: r)
        | y :: z :: r => (mtP a).one m y && (mtP b).orL m (z :: r)
        | _ => false) = true := h
      split at h
      · exact .one (one _ h)
      · exact core h
      · cases h
  | .not_ a, m, X, J, k => E3.of rfl fun x h => by
    have A := sdE a m X J k
    split at h
    · have ha := A.1 _ h
      exact .plain k.nd rfl rfl (me_not ha.pe) (mt_not ha.pt)
    · cases h
  | .cmp op a b, m, X, J, k => E3.of rfl fun x h => by
    have A := sdE a m X J k
    have B := sdE b m X J k
    split at h
    · simp only [Bool.and_eq_true, decide_eq_true_eq] at h
      obtain ⟨⟨⟨rfl, h1⟩, h2⟩, h3⟩ := h
      exact .plain k.nd rfl rfl (me_cmp k.g k.u (A.1 _ h1).pe (B.1 _ h2).pe h3) (mt_cmp k.g k.u (A.1 _ h1).pe (B.1 _ h2).pe h3)
    · cases h
  | .chain op1 op2 a b c, m, X, J, k => E3.of rfl fun x h => by
    have A := sdE a m X J k
    have B := sdE b m X J k
    have D := sdE c m X J k
    split at h
    · simp only [Bool.and_eq_true, decide_eq_true_eq] at h
      obtain ⟨⟨⟨⟨⟨rfl, rfl⟩, h1⟩, h2⟩, h3⟩, h4⟩ := h
      exact .plain k.nd rfl rfl (me_chain k.g k.u (A.1 _ h1).pe (B.1 _ h2).pe (D.1 _ h3).pe h4) (mt_chain k.g k.u (A.1 _ h1).pe (B.1 _ h2).pe (D.1 _ h3).pe h4)
    · cases h
  | .bin op a b, m, X, J, k => E3.of rfl fun x h => by
    have A := sdE a m X J k
    have B := sdE b m X J k
    split at h
    · simp only [Bool.and_eq_true, decide_eq_true_eq] at h
      obtain ⟨⟨rfl, h1⟩, h2⟩ := h
      exact .val k.nd rfl rfl rfl rfl (me_bin (A.1 _ h1).pe (B.1 _ h2).pe k.g)
    · cases h
  | .cat a b, m, X, J, k => E3.of rfl fun x h => by
    have A := sdE a m X J k
    have B := sdE b m X J k
    split at h
    · simp only [Bool.and_eq_true] at h
      exact .fresh k.nd rfl rfl rfl rfl (mf_cat (A.1 _ h.1).pe (B.1 _ h.2).pe)
    · cases h
  | .neg a, m, X, J, k => E3.of rfl fun x h => by
    have A := sdE a m X J k
    split at h
    · exact .val k.nd rfl rfl rfl rfl (me_neg (A.1 _ h).pe)
    · cases h
  | .ite c a b, m, X, J, k => E3.of rfl fun x h => by
    have A := sdE a m X J k
    have B := sdE b m X J k
    have D := sdE c m X J k
    split at h
    · simp only [Bool.and_eq_true] at h
      obtain ⟨⟨h1, h2⟩, h3⟩ := h
      exact .plain k.nd rfl rfl (me_ite (D.1 _ h1).pt (A.1 _ h2).pe (B.1 _ h3).pe) (mt_ite (D.1 _ h1).pt (A.1 _ h2).pt (B.1 _ h3).pt)
    · cases h
  | .tup es, m, X, J, k => E3.of rfl fun x h => by
    have A := sdEs es m X J k
    split at h
    · exact .val k.nd rfl rfl rfl rfl (me_tup (A _ h).1)
    · cases h
  | .lst es, m, X, J, k => E3.of rfl fun x h => by
    have A := sdEs es m X J k
    split at h
    · exact .fresh k.nd rfl rfl rfl rfl (mf_lst (A _ h).1)
    · cases h
  | .dsp es, m, X, J, k => E3.of rfl fun x h => by
    have P := sdPs es m X J k
    split at h
    · rename_i ks vs pos
      split at h
      · rename_i l hl
        simp only [Bool.and_eq_true, decide_eq_true_eq] at h
        obtain ⟨w1, w2, w3⟩ := weave_ok hl
        cases ks with
        | nil =>
          cases vs with
          | cons _ _ => cases w2
          | nil =>
            cases (Option.some.inj (show some [] = some l from hl))
            have e : es = .nil := by
              cases es with
              | nil => rfl
              | cons _ _ => cases h.1
              | star _ _ => cases h.1
            subst e
            exact .fresh k.nd rfl rfl rfl rfl mf_dsp0
        | cons x ks => exact .fresh k.nd rfl rfl rfl rfl (mf_dsp (P _ _ _ hl h.1) (by simp) w1 w2 h.2)
      · cases h
    · cases h
  | .idx a b, m, X, J, k => E3.of rfl fun x h => by
    have A := sdE a m X J k
    have B := sdE b m X J k
    split at h
    · simp only [Bool.and_eq_true] at h
      obtain ⟨⟨h1, h2⟩, h3⟩ := h
      exact .val k.nd rfl rfl rfl rfl (me_idx k.g k.u (A.1 _ h1).pe (B.1 _ h2).pe h3)
    · cases h
  | .slc lo hi a l hh, m, X, J, k => E3.of rfl fun x h => by
    have A := sdE a m X J k
    have L := sdE l m X J k
    have U := sdE hh m X J k
    split at h
    · rename_i y l' h' p2 pos
      simp only [Bool.and_eq_true] at h
      obtain ⟨⟨h1, h2⟩, h3⟩ := h
      have hl : ∃ z, l' = optX lo z ∧ (lo = true → PE X z (TEm J (evE C l))) := by
        cases l' with
        | none => exact ⟨y, by simp at h2; subst h2; rfl, fun q => by simp at h2; rw [h2] at q; cases q⟩
        | some z => simp only [Bool.and_eq_true] at h2; obtain ⟨q, h2⟩ := h2; subst q; exact ⟨z, rfl, fun _ => (L.1 _ h2).pe⟩
      have hu : ∃ z, h' = optX hi z ∧ (hi = true → PE X z (TEm J (evE C hh))) := by
        cases h' with
        | none => exact ⟨y, by simp at h3; subst h3; rfl, fun q => by simp at h3; rw [h3] at q; cases q⟩
        | some z => simp only [Bool.and_eq_true] at h3; obtain ⟨q, h3⟩ := h3; subst q; exact ⟨z, rfl, fun _ => (U.1 _ h3).pe⟩
      obtain ⟨z1, rfl, q1⟩ := hl
      obtain ⟨z2, rfl, q2⟩ := hu
      exact .val k.nd rfl rfl rfl rfl (me_slc (A.1 _ h1).pe q1 q2)
    · cases h
  | .isi a t, m, X, J, k => E3.of rfl fun x h => by
    have A := sdE a m X J k
    split at h
    · simp only [Bool.and_eq_true, decide_eq_true_eq, Bool.not_eq_true', decide_eq_false_iff_not] at h
      obtain ⟨⟨⟨⟨⟨⟨rfl, h2⟩, rfl⟩, h4⟩, h5⟩, h6⟩, h7⟩ := h
      exact .val k.nd rfl rfl rfl rfl (me_isi k.g h2 (k.gl' h4) k.bi (k.gl' h5) (k.ty t h2) (A.1 _ h6).pe h7)
    · cases h
  | .isx i c, m, X, J, k => E3.of rfl fun x h => by
    split at h
    · simp only [Bool.and_eq_true, decide_eq_true_eq] at h
      obtain ⟨⟨⟨⟨⟨h0, rfl⟩, h2⟩, h3⟩, h4⟩, h5⟩ := h
      obtain ⟨own, h5⟩ := cl_match h5
      obtain ⟨a, b, d, e⟩ := k.name h2
      obtain ⟨hd, cv, ⟨v, r1, r2⟩, hn, _, hs⟩ := k.cn _ _ _ h5
      have hcv : ∀ pp : Pos, ∃ cV, PE X (.Name ‹Str› pp) (tC cV) ∧ ∀ u, RelV cV u → u = cv := by
        intro pp
        rcases hn with hn | ⟨hn, hb, hne⟩
        · exact ⟨v, pe_glob (k.gl' h4) hn r1 hd, r2⟩
        · exact ⟨v, pe_bltn (k.gl' h4) hn hb r1 hne hd, r2⟩
      exact .val k.nd rfl rfl rfl rfl (me_isx (k.xi h0) (fun y b hb => (hs y b hb).2) (hcv _) a b d e (k.gl' h3) k.bi)
    · cases h
  | .xat _ _, m, X, J, k => E3.of rfl fun x h => by cases h
  | .blt b es, m, X, J, k => E3.of rfl fun x h => by
    have A := sdEs es m X J k
    split at h
    · simp only [Bool.and_eq_true, decide_eq_true_eq] at h
      obtain ⟨⟨⟨⟨rfl, h2⟩, h3⟩, h4⟩, h5⟩ := h
      have hc : b.cool = true → X.calm = true := fun q => by
        rw [q] at h5
        rw [k.cm]
        simpa using h5
      cases hf : b.fresh with
      | true => exact .fresh k.nd rfl rfl (by cases b <;> first | rfl | cases hf) rfl (mf_blt k.u hc hf (k.gl' h2) (k.bl b) (A _ h3).2 h4)
      | false => exact .val k.nd rfl rfl (by cases b <;> first | rfl | cases hf) rfl (me_blt k.g k.u hc hf (k.gl' h2) (k.bl b) (A _ h3).2 h4)
    · cases h
  | .mth q o es, m, X, J, k => E3.of rfl fun x h => by
    have O := sdE o m X J k
    have A := sdEs es m X J k
    split at h
    · simp only [Bool.and_eq_true, decide_eq_true_eq] at h
      obtain ⟨⟨⟨⟨⟨⟨rfl, h2⟩, h3⟩, h4⟩, h5⟩, h6⟩, h7⟩ := h
      exact .val k.nd rfl rfl rfl rfl (me_mth k.g k.u (O.1 _ h2).pe (A _ h3).1 h4 h5 h6 h7)
    · cases h
  | .popA o es, m, X, J, k => E3.of rfl fun x h => by
    have O := sdE o m X J k
    have A := sdEs es m X J k
    split at h
    · simp only [Bool.and_eq_true, decide_eq_true_eq] at h
      obtain ⟨⟨⟨⟨⟨rfl, h2⟩, h3⟩, h4⟩, h5⟩, h6⟩ := h
      exact .val k.nd rfl rfl rfl rfl (me_pop (O.1 _ h2).pe (A _ h3).1 h4 (by simp [h5]) h6)
    · cases h
  | .call f es, m, X, J, k => E3.of rfl fun x h => by
    have A := sdEs es m X J k
    split at h
    · simp only [Bool.and_eq_true] at h
      obtain ⟨⟨⟨⟨h1, h2⟩, h3⟩, h4⟩, h5⟩ := h
      obtain ⟨n, h3⟩ := fn_match h3
      exact .call k.nd rfl rfl rfl rfl (me_call (k.fn _ _ _ h3 (by rw [k.cm]; exact h1)) k.tk (k.gl' h2) (A _ h4).2 h5)
    · cases h
  | .pcall f es, m, X, J, k => E3.of rfl fun x h => by
    have A := sdEs es m X J k
    split at h
    · simp only [Bool.and_eq_true] at h
      obtain ⟨⟨⟨⟨h1, h2⟩, h3⟩, h4⟩, h5⟩ := h
      obtain ⟨n, h3⟩ := fn_match h3
      exact .call k.nd rfl rfl rfl rfl (me_pcall (k.fn _ _ _ h3 (by rw [k.cm]; exact h1)) k.tk (k.gl' h2) (A _ h4).2 h5)
    · cases h
  | .comp elt tg it c own, m, X, J, k => E3.of rfl fun x h => by
    have I := sdIt it m X J k
    have El := fun (m : Mc) (X : Cx) (J : Jd) (k : Cnd m X J C) => sdE elt m X J k
    have Cd := fun (m : Mc) (X : Cx) (J : Jd) (k : Cnd m X J C) => sdE c m X J k
    split at h
    · rename_i y xt xi ifs as scope pos
      simp only [Bool.and_eq_true, decide_eq_true_eq] at h
      obtain ⟨⟨⟨⟨⟨⟨⟨⟨h1, rfl⟩, h3⟩, h4⟩, h5⟩, h6⟩, h7⟩, h8⟩, h9⟩ := h
      have ok := blk_of h3
      have hk := ok.kind
      have ok : BlkOk X.N X.env.scope scope (ownS m.N own) := by rw [k.N, k.sc]; exact ok
      have hseq : tg.seq = true → X.calm = true := fun q => by
        rw [k.cm]
        cases hcm : m.calm with
        | true => rfl
        | false => rw [hcm] at h1; simp [q] at h1
      have hg : ∀ (s : Shared) (H : Hp) (Ca : Addr) (cl : List (Str × Addr)) (fp : List Addr), PG (X.blk s H scope (compEnvC scope cl Ca X.env) fp) xt (TGm J.nox tg) := fun s H Ca cl fp => sd_tg tg (m.blk scope) _ xt (k.blk hk s H Ca cl fp) hseq h4
      have ht : ∀ (s : Shared) (H : Hp) (Ca : Addr) (cl : List (Str × Addr)) (fp : List Addr), PTs (X.blk s H scope (compEnvC scope cl Ca X.env) fp) ifs (TTm J.nox (evT C c)) := fun s H Ca cl fp => by
        cases ifs with
        | nil =>
          have hy : c = .cst (.bool true) := by
            have h6 : isYes c = true := h6
            unfold isYes at h6
            split at h6
            · rfl
            · cases h6
          subst hy
          exact ⟨fun pins s σ H Q I ⟨w, env, mh, R, o⟩ => pts_nil.run pins s σ H Q I (OG.now (rel := relB) (a := true) o R.h rfl)⟩
        | cons z zs =>
          cases zs with
          | nil => exact pts_one ((Cd _ _ _ (k.blk hk s H Ca cl fp)).1 z h6).pt
          | cons _ _ => cases h6
      have he : ∀ (s : Shared) (H : Hp) (Ca : Addr) (cl : List (Str × Addr)) (fp : List Addr), PE (X.blk s H scope (compEnvC scope cl Ca X.env) fp) y (TEm J.nox (evE C elt)) := fun s H Ca cl fp => ((El _ _ _ (k.blk hk s H Ca cl fp)).1 y h7).pe
      have hsl : ∀ j ∈ tg.slots, j ∈ (ownS m.N own).map (·.2) := fun j hj => by
        rw [ownS_snd]
        have := List.all_eq_true.mp h8 j hj
        simpa using this
      have W := mf_comp (X := X) (J := J) (C := C) (elt := elt) (c := c) (tg := tg) (it := it) (ownS := ownS m.N own) (xe := y) (xt := xt) (ifs := ifs) (scope := scope) hsl hg ht he
      rw [ownS_snd] at W
      have both : PE X (.ListComp y [⟨xt, xi, ifs, 0⟩] scope pos) (tLc (TIm J Ext tg (evIt C it)) (TGm J.nox tg) (TTm J.nox (evT C c)) (TEm J.nox (evE C elt)) ((ownS m.N own).map (·.2))) ∧
          ∀ (i : Nat) (z : Str) (p spos : Pos), X.N[i]? = some z → X.env.scope.names.lookup z = some .local → swapsWith (.ListComp y [⟨xt, xi, ifs, 0⟩] scope pos) (some (.Name z p)) spos.line X.env = pure true →
            PS X (.Assign [.Name z p] (.ListComp y [⟨xt, xi, ifs, 0⟩] scope pos) spos) (tAsg (tLc (TIm J Ext tg (evIt C it)) (TGm J.nox tg) (TTm J.nox (evT C c)) (TEm J.nox (evE C elt)) ((ownS m.N own).map (·.2))) (gName i)) := by
        have hi := I tg xt xi h5 h9
        cases hcm : X.calm with
        | true => exact ⟨pe_lc hcm k.nd hi.1 ok hg ht he (folded_of h9), fun i z p spos e1 e2 e3 => ps_setLc hcm k.nd e1 e2 e3 hi.1 ok hg ht he (folded_of h9)⟩
        | false =>
          have hm : m.calm = false := by rw [← k.cm]; exact hcm
          rw [hm] at h1
          simp only [Bool.false_or, Bool.and_eq_true] at h1
          have hot := k.ht h1.1.1
          exact ⟨pe_hot hot k.nd (hi.2.2 h1.1.2) ok hg ht he (folded_of h9), fun i z p spos e1 e2 e3 => ps_setHot hot k.nd e1 e2 e3 (hi.2.2 h1.1.2) ok hg ht he (folded_of h9)⟩
      have pf : PE X (.ListComp y [⟨xt, xi, ifs, 0⟩] scope pos) (TEf J (evE C (.comp elt tg it c own))) := by
        refine PE.weak both.1 fun σ H Q q => ?_
        rw [ownS_snd]
        exact W σ H Q q
      have pe : PE X (.ListComp y [⟨xt, xi, ifs, 0⟩] scope pos) (TEm J (evE C (.comp elt tg it c own))) := PE.weak pf fun _ _ _ h => TEf.tem h
      have af : ∀ (i : Nat) (z : Str) (p spos : Pos), SetOk X i z → AsgOk X (.Name z p) (.ListComp y [⟨xt, xi, ifs, 0⟩] scope pos) spos (TEf J (evE C (.comp elt tg it c own))) (gName i) := fun i z p spos so => by
        have sw : swapsWith (.ListComp y [⟨xt, xi, ifs, 0⟩] scope pos) (some (.Name z p)) spos.line X.env = pure (X.env.blockKind == .function && X.env.kindOf z == some .local && p.line == pos.line
            && !(scope.names.any fun (n, k) => n == z && (k == .local || k == .cell))) := rfl
        cases hb : (X.env.blockKind == .function && X.env.kindOf z == some .local && p.line == pos.line
            && !(scope.names.any fun (n, k) => n == z && (k == .local || k == .cell))) with
        | true =>
          rw [hb] at sw
          simp only [Bool.and_eq_true, beq_iff_eq] at hb
          refine tAsg_weak (both.2 i z p spos so.at_ hb.1.1.2 sw) fun σ H Q q => ?_
          rw [ownS_snd]
          exact W σ H Q q
        | false =>
          rw [hb] at sw
          exact ps_set k.nd so.at_ so.loc pf sw so.fn
      exact ⟨pe, mt_val pe rfl (isTrue_val rfl), fun _ => by rw [TEo_f rfl]; exact pf, fun i z p spos so => ⟨tAsg_weak (af i z p spos so) fun _ _ _ h => TEf.tem h, fun _ => by rw [TEo_f rfl]; exact af i z p spos so⟩⟩
    · cases h
  | .dcomp ek ev tg it c own, m, X, J, k => E3.of rfl fun x h => by
    have I := sdIt it m X J k
    have Ek := fun (m : Mc) (X : Cx) (J : Jd) (k : Cnd m X J C) => sdE ek m X J k
    have Ev := fun (m : Mc) (X : Cx) (J : Jd) (k : Cnd m X J C) => sdE ev m X J k
    have Cd := fun (m : Mc) (X : Cx) (J : Jd) (k : Cnd m X J C) => sdE c m X J k
    split at h
    · rename_i y1 y2 xt xi ifs as scope pos
      simp only [Bool.and_eq_true, decide_eq_true_eq] at h
      obtain ⟨⟨⟨⟨⟨⟨⟨⟨⟨h1, rfl⟩, h3⟩, h4⟩, h5⟩, h6⟩, h7⟩, h7b⟩, h8⟩, h9⟩ := h
      have hc : X.calm = true := by rw [k.cm]; exact h1
      have ok := blk_of h3
      have hk := ok.kind
      have ok : BlkOk X.N X.env.scope scope (ownS m.N own) := by rw [k.N, k.sc]; exact ok
      have hi := (I tg xt xi h5 h9).1
      have hg : ∀ (s : Shared) (H : Hp) (Ca : Addr) (cl : List (Str × Addr)) (fp : List Addr), PG (X.blk s H scope (compEnvC scope cl Ca X.env) fp) xt (TGm J.nox tg) := fun s H Ca cl fp => sd_tg tg (m.blk scope) _ xt (k.blk hk s H Ca cl fp) (fun _ => hc) h4
      have ht : ∀ (s : Shared) (H : Hp) (Ca : Addr) (cl : List (Str × Addr)) (fp : List Addr), PTs (X.blk s H scope (compEnvC scope cl Ca X.env) fp) ifs (TTm J.nox (evT C c)) := fun s H Ca cl fp => by
        cases ifs with
        | nil =>
          have hy : c = .cst (.bool true) := by
            have h6 : isYes c = true := h6
            unfold isYes at h6
            split at h6
            · rfl
            · cases h6
          subst hy
          exact ⟨fun pins s σ H Q I ⟨w, env, mh, R, o⟩ => pts_nil.run pins s σ H Q I (OG.now (rel := relB) (a := true) o R.h rfl)⟩
        | cons z zs =>
          cases zs with
          | nil => exact pts_one ((Cd _ _ _ (k.blk hk s H Ca cl fp)).1 z h6).pt
          | cons _ _ => cases h6
      have hek : ∀ (s : Shared) (H : Hp) (Ca : Addr) (cl : List (Str × Addr)) (fp : List Addr), PE (X.blk s H scope (compEnvC scope cl Ca X.env) fp) y1 (TEm J.nox (evE C ek)) := fun s H Ca cl fp => ((Ek _ _ _ (k.blk hk s H Ca cl fp)).1 y1 h7).pe
      have he : ∀ (s : Shared) (H : Hp) (Ca : Addr) (cl : List (Str × Addr)) (fp : List Addr), PE (X.blk s H scope (compEnvC scope cl Ca X.env) fp) y2 (TEm J.nox (evE C ev)) := fun s H Ca cl fp => ((Ev _ _ _ (k.blk hk s H Ca cl fp)).1 y2 h7b).pe
      have hsl : ∀ j ∈ tg.slots, j ∈ (ownS m.N own).map (·.2) := fun j hj => by
        rw [ownS_snd]
        have := List.all_eq_true.mp h8 j hj
        simpa using this
      have W := mf_dcomp (pos := pos) hc k.nd hi ok h9 hsl hg ht hek he
      rw [ownS_snd] at W
      have pf : PE X (.DictComp y1 y2 [⟨xt, xi, ifs, 0⟩] scope pos) (TEf J (evE C (.dcomp ek ev tg it c own))) := by
        refine PE.weak (pe_dc hc k.nd hi ok hg ht hek he (folded_of h9)) fun σ H Q q => ?_
        rw [ownS_snd]
        exact W σ H Q q
      have pe : PE X (.DictComp y1 y2 [⟨xt, xi, ifs, 0⟩] scope pos) (TEm J (evE C (.dcomp ek ev tg it c own))) := PE.weak pf fun _ _ _ h => TEf.tem h
      have af : ∀ (i : Nat) (z : Str) (p spos : Pos), SetOk X i z → AsgOk X (.Name z p) (.DictComp y1 y2 [⟨xt, xi, ifs, 0⟩] scope pos) spos (TEf J (evE C (.dcomp ek ev tg it c own))) (gName i) := fun i z p spos so => by
        have sw : swapsWith (.DictComp y1 y2 [⟨xt, xi, ifs, 0⟩] scope pos) (some (.Name z p)) spos.line X.env = pure (X.env.blockKind == .function && X.env.kindOf z == some .local && p.line == pos.line
            && !(scope.names.any fun (n, k) => n == z && (k == .local || k == .cell))) := rfl
        cases hb : (X.env.blockKind == .function && X.env.kindOf z == some .local && p.line == pos.line
            && !(scope.names.any fun (n, k) => n == z && (k == .local || k == .cell))) with
        | true =>
          rw [hb] at sw
          simp only [Bool.and_eq_true, beq_iff_eq] at hb
          refine tAsg_weak (ps_setDc hc k.nd so.at_ hb.1.1.2 sw hi ok hg ht hek he (folded_of h9)) fun σ H Q q => ?_
          rw [ownS_snd]
          exact W σ H Q q
        | false =>
          rw [hb] at sw
          exact ps_set k.nd so.at_ so.loc pf sw so.fn
      exact ⟨pe, mt_val pe rfl (isTrue_val rfl), fun _ => by rw [TEo_f rfl]; exact pf, fun i z p spos so => ⟨tAsg_weak (af i z p spos so) fun _ _ _ h => TEf.tem h, fun _ => by rw [TEo_f rfl]; exact af i z p spos so⟩⟩
    · cases h
  | .lzip a b, m, X, J, k => E3.of rfl fun x h => by
    have A := sdE a m X J k
    have B := sdE b m X J k
    split at h
    · simp only [Bool.and_eq_true, decide_eq_true_eq] at h
      obtain ⟨⟨⟨⟨⟨⟨⟨⟨h1, rfl⟩, rfl⟩, h4⟩, h5⟩, h6⟩, h7⟩, h8⟩, h9⟩ := h
      exact .fresh k.nd rfl rfl rfl rfl (mf_lzip (by rw [k.cm]; exact h1) (A.1 _ h6).pe (B.1 _ h7).pe (k.gl' h4) (k.bl .lst) (k.gl' h5) k.bz (by simp [h8, h9]))
    · cases h
  | .rev a, m, X, J, k => E3.of rfl fun x h => by
    have A := sdE a m X J k
    split at h
    · exact .val k.nd rfl rfl rfl rfl (me_rev (A.1 _ h).pe)
    · cases h
theorem sdEs : ∀ (es : Es) (m : Mc) (X : Cx) (J : Jd), Cnd m X J C → ∀ xs, mtEs es m xs = true → PA X xs (TDm J (evEs C es)) ∧ PA X xs (TVm J (evVs C es))
  | .nil, m, X, J, k, xs, h => by
    have h : xs.isEmpty = true := h
    cases xs with
    | nil => exact ⟨ma_nil, mv_nil⟩
    | cons _ _ => cases h
  | .cons e es, m, X, J, k, xs, h => by
    cases xs with
    | nil => cases h
    | cons x xs =>
      have h : ((mtP e).one m x && mtEs es m xs && plainX x) = true := h
      simp only [Bool.and_eq_true] at h
      have he := (sdE e m X J k).1 _ h.1.1
      have hs := sdEs es m X J k xs h.1.2
      exact ⟨ma_cons he.pe hs.1 h.2, mv_cons he.pe hs.2 h.2⟩
  | .star _ _, m, X, J, k, xs, h => by cases h
theorem sdPs : ∀ (es : Es) (m : Mc) (X : Cx) (J : Jd), Cnd m X J C → ∀ ks vs l, weave ks vs = some l → mtEs es m l = true → PsOk X J C es ks vs
  | .nil, m, X, J, k, ks, vs, l, hw, h => by
    have h : l.isEmpty = true := h
    obtain ⟨_, w2, w3⟩ := weave_ok hw
    have hl : l = [] := by simpa using h
    subst hl
    have hk : ks = [] := by cases ks with | nil => rfl | cons _ _ => simp at w3
    subst hk
    have hv : vs = [] := by cases vs with | nil => rfl | cons _ _ => simp at w2
    subst hv
    exact .nil
  | .cons e .nil, m, X, J, k, ks, vs, l, hw, h => by
    obtain ⟨_, w2, w3⟩ := weave_ok hw
    cases l with
    | nil => cases h
    | cons a l =>
      have h : ((mtP e).one m a && mtEs .nil m l && plainX a) = true := h
      simp only [Bool.and_eq_true] at h
      have hl : l.isEmpty = true := h.1.2
      have hl : l = [] := by simpa using hl
      subst hl
      simp at w3
      omega
  | .cons e (.star _ _), m, X, J, k, ks, vs, l, hw, h => by
    cases l with
    | nil => cases h
    | cons a l =>
      have h : ((mtP e).one m a && mtEs (.star _ _) m l && plainX a) = true := h
      simp only [Bool.and_eq_true] at h
      exact absurd h.1.2 (by unfold mtEs; simp)
  | .cons e (.cons f es), m, X, J, k, ks, vs, l, hw, h => by
    cases ks with
    | nil =>
      cases vs with
      | nil => cases (Option.some.inj (show some [] = some l from hw)); cases h
      | cons _ _ => cases hw
    | cons a ks =>
      cases a with
      | none => cases hw
      | some xk =>
        cases vs with
        | nil => cases hw
        | cons xv vs =>
          obtain ⟨r, h1, rfl⟩ := Option.map_eq_some_iff.mp (show (weave ks vs).map (fun r => xk :: xv :: r) = some l from hw)
          have h : ((mtP e).one m xk && ((mtP f).one m xv && mtEs es m r && plainX xv) && plainX xk) = true := h
          simp only [Bool.and_eq_true] at h
          exact .cons ((sdE e m X J k).1 _ h.1.1).pe ((sdE f m X J k).1 _ h.1.2.1.1).pe (sdPs es m X J k ks vs r h1 h.1.2.1.2)
  | .star _ _, m, X, J, k, ks, vs, l, hw, h => by cases h
theorem sdIt : ∀ (it : Mn.It) (m : Mc) (X : Cx) (J : Jd), Cnd m X J C → ∀ tg xt xi, mtIt it m tg xt xi = true → plainX xi = true → PI X xt xi (TIm J Ext tg (evIt C it)) ∧ PI X xt xi (TIm J FKeep tg (evItF C it)) ∧ (isR1 it = true → L2H.PIH X xt xi (TIm J Ext tg (evIt C it)))
  | .of e, m, X, J, k, tg, xt, xi, h, _ => by
    have h := (sdE e m X J k).1 xi h
    exact ⟨mi_of h.pe, mi_ofF h.pe, fun h => by cases h⟩
  | .rng1 a, m, X, J, k, tg, xt, xi, h, _ => by
    have A := sdE a m X J k
    unfold mtIt at h
    split at h
    · simp only [Bool.and_eq_true, decide_eq_true_eq] at h
      obtain ⟨⟨⟨rfl, h2⟩, h3⟩, h4⟩ := h
      exact ⟨mi_rng1 (A.1 _ h3).pe (k.gl' h2) k.br h4, mi_rng1 (A.1 _ h3).pe (k.gl' h2) k.br h4, fun _ => mi_rng1H (A.1 _ h3).pe (k.gl' h2) k.br h4⟩
    · cases h
  | .rng2 a b, m, X, J, k, tg, xt, xi, h, _ => by
    have A := sdE a m X J k
    have B := sdE b m X J k
    unfold mtIt at h
    split at h
    · simp only [Bool.and_eq_true, decide_eq_true_eq] at h
      obtain ⟨⟨⟨⟨⟨rfl, h2⟩, h3⟩, h4⟩, h5⟩, h6⟩ := h
      exact ⟨mi_rng2 (A.1 _ h3).pe (B.1 _ h4).pe (k.gl' h2) k.br (by simp [h5, h6]), mi_rng2 (A.1 _ h3).pe (B.1 _ h4).pe (k.gl' h2) k.br (by simp [h5, h6]), fun h => by cases h⟩
    · cases h
  | .zip2 a b, m, X, J, k, tg, xt, xi, h, _ => by
    have A := sdE a m X J k
    have B := sdE b m X J k
    unfold mtIt at h
    split at h
    · simp only [Bool.and_eq_true, decide_eq_true_eq] at h
      obtain ⟨⟨⟨⟨⟨⟨h1, rfl⟩, h2⟩, h3⟩, h4⟩, h5⟩, h6⟩ := h
      exact ⟨mi_zip2 (fun _ _ _ _ q => q.fk) h1 (A.1 _ h3).pe (B.1 _ h4).pe (k.gl' h2) k.bz (by simp [h5, h6]), mi_zip2 (fun _ _ _ _ q => q) h1 (A.1 _ h3).pe (B.1 _ h4).pe (k.gl' h2) k.bz (by simp [h5, h6]), fun h => by cases h⟩
    · cases h
  | .zip3 a b c, m, X, J, k, tg, xt, xi, h, _ => by
    have A := sdE a m X J k
    have B := sdE b m X J k
    have D := sdE c m X J k
    unfold mtIt at h
    split at h
    · simp only [Bool.and_eq_true, decide_eq_true_eq] at h
      obtain ⟨⟨⟨⟨⟨⟨⟨⟨h1, rfl⟩, h2⟩, h3⟩, h4⟩, h5⟩, h6⟩, h7⟩, h8⟩ := h
      exact ⟨mi_zip3 (fun _ _ _ _ q => q.fk) h1 (A.1 _ h3).pe (B.1 _ h4).pe (D.1 _ h5).pe (k.gl' h2) k.bz (by simp [h6, h7, h8]), mi_zip3 (fun _ _ _ _ q => q) h1 (A.1 _ h3).pe (B.1 _ h4).pe (D.1 _ h5).pe (k.gl' h2) k.bz (by simp [h6, h7, h8]), fun h => by cases h⟩
    · cases h
  | .enum a, m, X, J, k, tg, xt, xi, h, _ => by
    have A := sdE a m X J k
    unfold mtIt at h
    split at h
    · simp only [Bool.and_eq_true, decide_eq_true_eq] at h
      obtain ⟨⟨⟨⟨h1, rfl⟩, h2⟩, h3⟩, h4⟩ := h
      exact ⟨mi_enum (fun _ _ _ _ q => q.fk) h1 (A.1 _ h3).pe (k.gl' h2) k.be (by simp [h4]), mi_enum (fun _ _ _ _ q => q) h1 (A.1 _ h3).pe (k.gl' h2) k.be (by simp [h4]), fun h => by cases h⟩
    · cases h
end
end
end Mn
end
section
set_option linter.all false
set_option autoImplicit false
set_option maxRecDepth 100000
/-! Mini: what is matched, does what the evaluator says: statements. -/
namespace Mn
open PySem PySem.Spec PyProof.Rows L2

structure CndS (m : Mc) (X : Cx) (J : Jd) (C : CallF) : Prop where
  c : Cnd m X J C
  ps : X.calm = true → PassesOwn (model X.prog X.w) X.A X.env X.xe
  stk : X.stack = X.env :: X.outer
  fr : X.env.frame = some X.env.locals
  ec : ∀ y, ExcC X.K (J.T.ca y)
section
variable {m : Mc} {X : Cx} {J : Jd} {C : CallF}
theorem CndS.tr (k : CndS m X J C) (hcm : X.calm = true) (W : WX) (pn : List (Addr × Obj)) (xe : Value → Shared → Prop) (tk : L2N.Takes (X.tr pn xe) W) (ps : PassesOwn (model X.prog X.w) X.A X.env xe) : CndS m (X.tr pn xe) { J with W := W } C where
  c := {
    sc := k.c.sc
    N := k.c.N
    ow := k.c.ow
    cm := k.c.cm
    g := k.c.g
    u := k.c.u
    nd := k.c.nd
    fk := k.c.fk
    tk := tk
    bl := k.c.bl
    ty := k.c.ty
    bi := k.c.bi
    br := k.c.br
    bz := k.c.bz
    be := k.c.be
    fn := fun f x n h hc => let F := k.c.fn f x n h hc; ⟨F.fn, F.db, F.len⟩
    gl := k.c.gl
    cx := k.c.cx
    cn := fun c x own h => by
      obtain ⟨h1, cv, h2, h3, h4, h5⟩ := k.c.cn c x own h
      exact ⟨h1, cv, h2, h3, fun q => let K := h4 q; ⟨K.ex, K.gl, K.kp, K.sb, K.ty, K.db⟩, h5⟩
    hc := k.c.hc
    ht := fun h => by
      have q := k.c.hc h
      rw [← k.c.cm, hcm] at q; cases q
    xi := fun _ a D e hD => by
      have e : J.T.ex = some (a, .ref D, none) := e
      rw [k.c.cx hcm] at e; cases e }
  ps := fun _ => ps
  stk := k.stk
  fr := k.fr
  ec := k.ec
theorem CndS.suite (k : CndS m X J C) (a : Addr) (oe : Obj) (cls : Value) (d : Option Addr) (pn : List (Addr × Obj)) (hz : L2N.Zn cls d oe) (hf : ∃ vs, oe.data = .fields vs) : CndS { m with calm := false, hot := true } (X.suite a ((a, oe) :: pn)) (J.suite a cls d) C where
  c := {
    sc := k.c.sc
    N := k.c.N
    ow := k.c.ow
    cm := rfl
    g := k.c.g
    u := k.c.u
    nd := k.c.nd
    fk := k.c.fk
    tk := takes_nox
    bl := k.c.bl
    ty := k.c.ty
    bi := k.c.bi
    br := k.c.br
    bz := k.c.bz
    be := k.c.be
    fn := fun f x n h hc => by cases hc
    gl := k.c.gl
    cx := fun hc => by cases hc
    cn := fun c x own h => by
      obtain ⟨h1, cv, h2, h3, h4, h5⟩ := k.c.cn c x own h
      exact ⟨h1, cv, h2, h3, fun q => let K := h4 q; ⟨K.ex, K.gl, K.kp, K.sb, K.ty, K.db⟩, h5⟩
    hc := fun _ => rfl
    ht := fun _ => by
      obtain ⟨vs, hv⟩ := hf
      exact ⟨(a, oe), ⟨rfl, vs, hv, hz.2.2 vs hv⟩, List.mem_cons_self⟩
    xi := fun _ a' D e hD => by
      have e : some (a, cls, d) = some (a', .ref D, none) := e
      cases e
      obtain ⟨y, hy⟩ := hD
      have hE : ExcC X.K D := by rw [hy]; exact k.ec y
      exact call_isE hE hz.zc hf }
  ps := fun hc => by cases hc
  stk := k.stk
  fr := k.fr
  ec := k.ec
theorem CndS.suite0 (k : CndS m X J C) (hT : J.T.ex = none) (a : Addr) (oe : Obj) (cls : Value) (d : Option Addr) (pn : List (Addr × Obj)) (hz : L2N.Zn cls d oe) (hf : ∃ vs, oe.data = .fields vs) : CndS { m with calm := false, hot := true } (X.suite a ((a, oe) :: pn)) J.nox C where
  c := {
    sc := k.c.sc
    N := k.c.N
    ow := k.c.ow
    cm := rfl
    g := k.c.g
    u := k.c.u
    nd := k.c.nd
    fk := k.c.fk
    tk := takes_nox
    bl := k.c.bl
    ty := k.c.ty
    bi := k.c.bi
    br := k.c.br
    bz := k.c.bz
    be := k.c.be
    fn := fun f x n h hc => by cases hc
    gl := k.c.gl
    cx := fun hc => by cases hc
    cn := fun c x own h => by
      obtain ⟨h1, cv, h2, h3, h4, h5⟩ := k.c.cn c x own h
      exact ⟨h1, cv, h2, h3, fun q => let K := h4 q; ⟨K.ex, K.gl, K.kp, K.sb, K.ty, K.db⟩, h5⟩
    hc := fun _ => rfl
    ht := fun _ => by
      obtain ⟨vs, hv⟩ := hf
      exact ⟨(a, oe), ⟨rfl, vs, hv, hz.2.2 vs hv⟩, List.mem_cons_self⟩
    xi := fun _ a' D e hD => by
      have e : J.T.ex = some (a', .ref D, none) := e
      rw [hT] at e; cases e }
  ps := fun hc => by cases hc
  stk := k.stk
  fr := k.fr
  ec := k.ec
theorem swapped_none {t x : Expr} {env : Env} (h : noTup x = true) : swappedStores [t] x env = pure none := by
  unfold swappedStores
  cases t <;> cases x <;> first | rfl | cases h
theorem assign_one {t : Expr} {env : Env} (h : plainX t = true) : (assignEach [t] env).map (·.2) = [assign t env] := by rw [assign_plain h]; rfl
theorem append_eq {a : Str} : True := trivial
theorem Cnd.names (k : Cnd m X J C) {n : Str} {cv : Value} (hg : glB m.sc n = true) (hd : (n == ("__debug__" : Str)) = false) (hn : (X.mg n = some cv) ∨ (X.mg n = none ∧ bootBuiltins n = some cv ∧ n ≠ "__name__")) : Names X n cv := ⟨k.gl' hg, hd, hn⟩
mutual
theorem sdS : ∀ (s : S) (m : Mc) (X : Cx) (J : Jd), CndS m X J C → ∀ st, mtS s m st = true → PS X st (TSm J (evS C s))
  | .expr e, m, X, J, k, st, h => by
    unfold mtS at h
    split at h
    · rw [Bool.and_eq_true] at h
      exact ms_expr ((sdE e m X J k.c).1 _ h.1).pe (swap_no h.2)
    · cases h
  | .asg t e, m, X, J, k, st, h => by
    unfold mtS at h
    split at h
    · rename_i tx x pos
      simp only [Bool.and_eq_true] at h
      obtain ⟨⟨h1, h2⟩, h3⟩ := h
      have A := (sdE e m X J k.c).1 _ h2
      cases t with
      | nm i =>
        unfold mtTg at h1
        split at h1
        · rename_i n p
          exact ms_asgN (A.as i n p pos (k.c.set h1)).1
        · cases h1
      | nil =>
        simp only [Bool.and_eq_true] at h3
        obtain ⟨⟨⟨h4, h5⟩, h6⟩, h7⟩ := h3
        have hp : plainX tx = true := by
          unfold mtTg at h1
          split at h1
          · rfl
          · cases h1
        exact ms_asgT h4 (ps_asg A.pe (sd_tg .nil m X tx k.c (fun _ => by rw [k.c.cm]; exact h7) h1) (swap_no h5) (swapped_none h6) (assign_one hp))
      | cons a b =>
        simp only [Bool.and_eq_true] at h3
        obtain ⟨⟨⟨h4, h5⟩, h6⟩, h7⟩ := h3
        have hp : plainX tx = true := by
          unfold mtTg at h1
          split at h1
          · rfl
          · cases h1
        exact ms_asgT h4 (ps_asg A.pe (sd_tg (.cons a b) m X tx k.c (fun _ => by rw [k.c.cm]; exact h7) h1) (swap_no h5) (swapped_none h6) (assign_one hp))
    · cases h
  | .asgO i e, m, X, J, k, st, h => by
    unfold mtS at h
    split at h
    · rename_i n p x pos
      simp only [Bool.and_eq_true] at h
      exact ms_asgO ((((sdE e m X J k.c).1 _ h.1.2).as i n p pos (k.c.set h.1.1)).2 h.2)
    · cases h
  | .asgH i e, m, X, J, k, st, h => by
    unfold mtS at h
    split at h
    · rename_i n p x pos
      simp only [Bool.and_eq_true] at h
      exact ms_asgH ((((sdE e m X J k.c).1 _ h.1.2).as i n p pos (k.c.set h.1.1)).2 h.2)
    · cases h
  | .app i e, m, X, J, k, st, h => by
    unfold mtS at h
    split at h
    · simp only [Bool.and_eq_true, decide_eq_true_eq] at h
      obtain ⟨⟨⟨⟨rfl, h2⟩, h3⟩, h4⟩, h5⟩ := h
      obtain ⟨a, b, c, d⟩ := k.c.name h2
      exact ms_app a b c d ((sdE e m X J k.c).1 _ h3).pe h4 h5
    · cases h
  | .rem i e, m, X, J, k, st, h => by
    unfold mtS at h
    split at h
    · simp only [Bool.and_eq_true, decide_eq_true_eq] at h
      obtain ⟨⟨⟨⟨rfl, h2⟩, h3⟩, h4⟩, h5⟩ := h
      obtain ⟨a, b, c, d⟩ := k.c.name h2
      exact ms_rem a b c d ((sdE e m X J k.c).1 _ h3).pe h4 h5
    · cases h
  | .setI i q v, m, X, J, k, st, h => by
    unfold mtS at h
    split at h
    · simp only [Bool.and_eq_true] at h
      obtain ⟨⟨⟨h2, h3⟩, h4⟩, h5⟩ := h
      obtain ⟨a, b, c, d⟩ := k.c.name h2
      have sw : ∀ {vx : Expr} {o i : Expr} {p : Pos} {l : Nat} {env : Env}, swapsWith vx (some (.Subscript o i p)) l env = pure false := fun {vx o i p l env} => by cases vx <;> rfl
      exact ms_setI k.c.g k.c.u a b c d ((sdE q m X J k.c).1 _ h3).pe ((sdE v m X J k.c).1 _ h4).pe h5 sw
    · cases h
  | .aug i op e, m, X, J, k, st, h => by
    unfold mtS at h
    split at h
    · simp only [Bool.and_eq_true, decide_eq_true_eq, Bool.or_eq_true] at h
      obtain ⟨⟨⟨h1, rfl⟩, h3⟩, h4⟩ := h
      obtain ⟨a, b, c, d, e'⟩ := k.c.set h3
      exact ms_aug h1 k.c.nd a b c ((sdE e m X J k.c).1 _ h4).pe d e'
    · cases h
  | .ret e, m, X, J, k, st, h => by
    unfold mtS at h
    split at h
    · cases hv : notVar e with
      | true => exact ms_ret hv ((sdE e m X J k.c).1 _ h).pe
      | false =>
        cases e with
        | var i =>
          have h : (match (generalizing := false) ‹Expr› with
            | .Name n _ => nameB m i n
            | _ => false) = true := h
          split at h
          · obtain ⟨a, b, c, d⟩ := k.c.name h
            exact ms_retV a b c d
          · cases h
        | _ => cases hv
    · cases h
  | .retM e, m, X, J, k, st, h => by
    unfold mtS at h
    split at h
    · simp only [Bool.and_eq_true] at h
      cases hv : notVar e with
      | true =>
        have h2 := h.2
        rw [hv] at h2
        exact ms_retM hv (((sdE e m X J k.c).1 _ h.1).po (by simpa using h2))
      | false =>
        cases e with
        | var i =>
          have h : (match (generalizing := false) ‹Expr› with
            | .Name n _ => nameB m i n
            | _ => false) = true := h.1
          split at h
          · obtain ⟨a, b, c, d⟩ := k.c.name h
            exact ms_retMV a b c d
          · cases h
        | _ => cases hv
    · cases h
  | .retN, m, X, J, k, st, h => by
    unfold mtS at h
    split at h
    · exact ms_retN
    · cases h
  | .if_ c a b, m, X, J, k, st, h => by
    unfold mtS at h
    split at h
    · simp only [Bool.and_eq_true] at h
      exact ms_if ((sdE c m X J k.c).1 _ h.1.1).pt (sdSs a m X J k _ h.1.2) (sdSs b m X J k _ h.2)
    · cases h
  | .for_ t it body, m, X, J, k, st, h => by
    unfold mtS at h
    split at h
    · simp only [Bool.and_eq_true] at h
      obtain ⟨⟨⟨⟨h1, h2⟩, h3⟩, h4⟩, h5⟩ := h
      have hc : X.calm = true := by rw [k.c.cm]; exact h1
      exact ms_for (k.ps hc) hc (sdIt it m X J k.c t _ _ h3 h5).2.1 (sd_tg t m X _ k.c (fun _ => hc) h2) (sdSs body m X J k _ h4) h5
    · cases h
  | .while_ n c body, m, X, J, k, st, h => by
    unfold mtS at h
    split at h
    · simp only [Bool.and_eq_true] at h
      obtain ⟨⟨h1, h2⟩, h3⟩ := h
      have hc : X.calm = true := by rw [k.c.cm]; exact h1
      exact ms_while (k.ps hc) ((sdE c m X J k.c).1 _ h2).pt (sdSs body m X J k _ h3)
    · cases h
  | .brk, m, X, J, k, st, h => by
    unfold mtS at h
    split at h
    · exact ms_brk
    · cases h
  | .cont, m, X, J, k, st, h => by
    unfold mtS at h
    split at h
    · exact ms_cont
    · cases h
  | .pass, m, X, J, k, st, h => by
    unfold mtS at h
    split at h
    · exact ms_pass
    · cases h
  | .raise c es, m, X, J, k, st, h => by
    unfold mtS at h
    split at h
    · simp only [Bool.and_eq_true] at h
      obtain ⟨⟨h1, h2⟩, h3⟩ := h
      have hc : X.calm = true := by rw [k.c.cm]; exact h1
      split at h3
      · rename_i n' own e
        rw [Bool.and_eq_true] at h3
        have hn := of_decide_eq_true h3.1
        subst hn
        obtain ⟨hd, cv, _, _, hk, _⟩ := k.c.cn c _ own e
        exact ms_raise0 hc k.c.tk (hk h3.2) (k.c.gl' h2)
      · cases h3
    · cases h
  | .try_ body c i su, m, X, J, k, st, h => by
    unfold mtS at h
    split at h
    · rename_i xs n np nm y ys pos' pos
      simp only [Bool.and_eq_true] at h
      obtain ⟨⟨⟨⟨⟨h1, h2⟩, h3⟩, h4⟩, h5⟩, h6⟩ := h
      have hc : X.calm = true := by rw [k.c.cm]; exact h1
      have hT := k.c.cx hc
      obtain ⟨own, h3⟩ := cl_match h3
      obtain ⟨hd, cv, _, hn, _, hs⟩ := k.c.cn c n own h3
      have hb : ∀ (W : WX) (pn : List (Addr × Obj)) (xe : Value → Shared → Prop), L2N.Takes (X.tr pn xe) W → PassesOwn (model X.prog X.w) X.A X.env xe → PSs (X.tr pn xe) xs (TSm { J with W := W } (evSs C body)) := fun W pn xe tk ps => sdSs body m _ _ (k.tr hc W pn xe tk ps) xs h4
      cases i with
      | none =>
        cases nm with
        | some z => cases h6
        | none => exact ms_tryOnly k.stk k.fr (k.c.names h2 hd hn) k.c.tk (fun y b hb => (hs y b hb).1) hb fun a oe cls d pn hz hf => sdSs su _ _ _ (k.suite0 hT a oe cls d pn hz hf) _ h5
      | some j =>
        cases nm with
        | none => cases h6
        | some z =>
          simp only [Bool.and_eq_true, decide_eq_true_eq] at h6
          refine ms_tryAs hT k.stk k.fr k.c.nd (by rw [k.c.N]; exact h6.1) ?_ (k.c.names h2 hd hn) k.c.tk (fun y b hb => (hs y b hb).1) hb fun a oe cls d pn hz hf => sdSs su _ _ _ (k.suite a oe cls d pn hz hf) _ h5
          show X.env.scope.names.lookup z = _
          rw [k.c.sc]
          exact lcl_of h6.2
    · cases h
  | .frz _, m, X, J, k, st, h => by cases h
  | .nv, m, X, J, k, st, h => ms_never
theorem sdSs : ∀ (r : Ss) (m : Mc) (X : Cx) (J : Jd), CndS m X J C → ∀ xs, mtSs r m xs = true → PSs X xs (TSm J (evSs C r))
  | .nil, m, X, J, k, xs, h => by
    have h : xs.isEmpty = true := h
    cases xs with
    | nil => exact mss_nil
    | cons _ _ => cases h
  | .cons s r, m, X, J, k, xs, h => by
    have S := sdS s m X J k
    have R := sdSs r m X J k
    unfold mtSs at h
    split at h
    · exact mss_frz (R _ h)
    · exact mss_never
    · split at h
      · rw [Bool.and_eq_true] at h
        exact mss_cons (S _ h.1) (R _ h.2)
      · cases h
end
end
end Mn
end
section
set_option linter.all false
set_option autoImplicit false
set_option maxRecDepth 100000
/-! Mini: defs. -/
namespace Mn
open PySem PySem.Spec PyProof.Rows L2

/-- a def: its name, parameters, names; what it does; its text -/
structure Df where
  id : Nat
  name : Str
  ps : List Str
  N : List Str
  d : FDef
  st : Stmt
def dfAt (df : List Df) (f : Nat) : Option Df := df.find? fun q => decide (q.id = f)
theorem dfAt_mem {df : List Df} {f : Nat} {q : Df} (h : dfAt df f = some q) : q ∈ df := List.mem_of_find?_eq_some h
def fsB (N P : List Str) (sc : Scope) : Bool :=
  decide (sc.kind = .function) && !sc.isCoroutine && !sc.isGenerator && decide N.Nodup && decide (N.take P.length = P) &&
  (P.all fun x => decide (sc.names.lookup x = some .local) || decide (sc.names.lookup x = some .cell)) && sc.names.all fun y => !decide (y.2 = .free)
theorem fs_of {N P : List Str} {sc : Scope} (h : fsB N P sc = true) : FnScope N P sc := by
  unfold fsB at h
  simp only [Bool.and_eq_true, Bool.not_eq_true', decide_eq_true_eq, List.all_eq_true, Bool.or_eq_true, decide_eq_false_iff_not] at h
  obtain ⟨⟨⟨⟨⟨⟨h1, h2⟩, h3⟩, h4⟩, h5⟩, h6⟩, h7⟩ := h
  exact ⟨h1, h2, h3, h4, h5, h6, h7⟩
def mcOf (tb : Tab) (q : Df) : Mc := ⟨tb, q.N, defScope q.st, fun _ => true, true, false⟩
def dfB (tb : Tab) (q : Df) : Bool := mtSs q.d.body (mcOf tb q) (defBody q.st) && fsB q.N q.ps (defScope q.st) && decide (q.d.ps = q.ps.length) && decide (q.d.ns = q.N.length) && !odd q.name
section
variable {T : Stat} {w : Wd} {mh : MH} {H : Hp}
theorem start_rel {N : List Str} {ns : Nat} {vs : List V} {rs : List RV} (R : RelH T w mh H) (r : RvsOk T w H vs rs) (hp : rs.all RV.passes = true) (hn : ns = N.length) : Rel T ⟨w, H⟩ w (rs.map some ++ List.replicate (ns - rs.length) none) mh (start N vs) H := by
  have hl := r.length
  have get : ∀ {vs : List V} {rs : List RV} {i : Nat} {x : RV}, RvsOk T w H vs rs → rs[i]? = some x → ∃ v, vs[i]? = some v ∧ RvOk T w H v x := fun {vs rs i x} q => by
    induction q generalizing i with
    | nil => intro e; simp at e
    | cons r _ ih =>
      intro e
      cases i with
      | zero => simp at e; subst e; exact ⟨_, rfl, r⟩
      | succ i =>
        obtain ⟨v, e1, q⟩ := ih (i := i) (by simpa using e)
        exact ⟨v, by simpa using e1, q⟩
  have env : ∀ {i : Nat} {x : RV}, (rs.map some ++ List.replicate (ns - rs.length) none)[i]? = some (some x) → rs[i]? = some x := fun {i x} e => by
    by_cases hi : i < rs.length
    · rw [List.getElem?_append_left (by simpa using hi), List.getElem?_map] at e
      cases q : rs[i]? with
      | none => rw [q] at e; cases e
      | some y => rw [q] at e; cases e; rfl
    · rw [List.getElem?_append_right (by simpa using hi), List.getElem?_replicate] at e
      split at e
      · cases e
      · cases e
  have pass : ∀ {i : Nat} {x : RV}, rs[i]? = some x → x.own = true → False := fun {i x} e ho => by
    have := List.all_eq_true.mp hp x (List.mem_of_getElem? e)
    cases x with
    | dat d => cases ho
    | ref n => cases ho
    | olst xs => cases this
    | odct xs => cases this
    | xcp c a => cases this
  refine ⟨R, ⟨?_, fun i x e => ?_, fun i j x y a _ e1 _ o1 _ _ _ => pass (env e1) o1⟩, .refl, fun i x a e o _ => (pass (env e) o).elim⟩
  · unfold L2.start
    rw [List.length_append, List.length_append, List.length_map, List.length_map, List.length_replicate, List.length_replicate, hl, hn]
  · obtain ⟨v, e1, q⟩ := get r (env e)
    refine ⟨v, ?_, q⟩
    unfold L2.start
    rw [List.getElem?_append_left (by rw [List.length_map]; exact (List.getElem?_eq_some_iff.mp e1).1), List.getElem?_map, e1]
    rfl
end
/-- what the written part says of a law -/
structure Facts (P : Program) (w : World) (K : PySem.W.Frag) (mg : Str → Option Value) (T : Stat) (sub : Nat → Nat → Option Bool) (tb : Tab) (df : List Df) : Prop where
  g : T.g = ⟨P, w⟩
  ex : T.ex = none
  bl : ∀ b : Blt, mg b.id = none
  ty : ∀ t : Ty, t ≠ .lt → mg t.name = none
  bi : mg "isinstance" = none
  br : mg "range" = none
  bz : mg "zip" = none
  be : mg "enumerate" = none
  gl : ∀ k x d, tb.gl k = some (x, d) → ∃ v u, mg x = some u ∧ RelV v u ∧ (x == ("__debug__" : Str)) = false ∧ ∀ F H, Dv T.g F H v d
  cn : ∀ c x own, tb.cl c = some (x, own) → (x == ("__debug__" : Str)) = false ∧ ∃ cv : Value, (∃ v : V, RelV v cv ∧ ∀ u, RelV v u → u = cv) ∧ ((mg x = some cv) ∨ (mg x = none ∧ bootBuiltins x = some cv ∧ x ≠ "__name__")) ∧
    (own = true → PySem.W.excIn K (T.ca c) veMro "ValueError.__new__" = true ∧ mg x = some (.ref (T.ca c)) ∧ PySem.W.keepIn K (.ref (T.ca c)) = true ∧ PySem.W.subIn K (.ref (T.ca c)) (.type "BaseException") = some true ∧ PySem.W.typeIn K (.ref (T.ca c)) = some (.type "type")) ∧
    ∀ y b, sub y c = some b → PySem.W.exmOne K (.ref (T.ca y)) cv = some b ∧ PySem.W.kitOne K (.ref (T.ca y)) cv = some b
  ec : ∀ y, ExcC K (T.ca y)
  tf : ∀ f, tb.fn f = (dfAt df f).map fun q => (q.name, q.ps.length)
  fn : ∀ q ∈ df, dfB tb q = true ∧ ∃ (f : Addr) (fd : FuncData), FunD K q.name q.name (defArgs q.st) (defBody q.st) (defScope q.st) [] [] f fd ∧ mg q.name = some (.ref f) ∧ Binds K fd q.ps []
def progOf (df : List Df) : Nat → Option FDef := fun f => (dfAt df f).map (·.d)
section
variable {P : Program} {w : World} {K : PySem.W.Frag} {mg : Str → Option Value} {base : Heap} {T : Stat} {sub : Nat → Nat → Option Bool} {tb : Tab} {df : List Df}
theorem OG.sg {W₀ : XK} {w₀ : Wd} {H : Hp} {Q : VK} {o : SO} (h : OG T (RvN T H) W₀ w₀ H (bodyEnd o) Q) : SG ⟨T, ⟨w₀, H⟩, fun cls d _ H => W₀ cls d H⟩ w₀ H o { nx := fun _ H' => Q .non H', rt := Q } := by
  cases o with
  | next env mh => exact fun w' σ' H' _ R => h w' .non H' R.x R.h ⟨.non, fun z => by cases z⟩
  | ret rv mh => exact fun w' v H' x R q => h w' v H' x R q
  | brk env mh => exact h.elim
  | cont env mh => exact h.elim
  | exc x env mh => exact fun w' σ' cls d H' _ R q => h w' cls d H' R.x R.h q
  | stuck => exact h.elim
theorem Facts.fnAt (F : Facts P w K mg T sub tb df) {n : Nat} (ih : ∀ f q, dfAt df f = some q → ∀ (fa : Addr) (fd : FuncData), FunD K q.name q.name (defArgs q.st) (defBody q.st) (defScope q.st) [] [] fa fd → FnOk P w K mg base (L2N.CX P w) n fa fd q.ps (spM T q.ps.length (callN (progOf df) sub n f)))
    {X : Cx} (e1 : X.prog = P) (e2 : X.w = w) (e3 : X.K = K) (e4 : X.mg = mg) (e5 : X.base = base) (hr : Room n X.A) : ∀ f x k, tb.fn f = some (x, k) → FnAt X T x k (callN (progOf df) sub n f) := fun f x k h => by
  subst e1 e2 e3 e4 e5
  rw [F.tf] at h
  cases hq : dfAt df f with
  | none => rw [hq] at h; cases h
  | some q =>
    rw [hq] at h
    cases h
    obtain ⟨hB, fa, fd, FD, hm, hb⟩ := F.fn q (dfAt_mem hq)
    have hd : odd q.name = false ∧ q.d.ps = q.ps.length := by
      unfold dfB at hB
      simp only [Bool.and_eq_true, Bool.not_eq_true', decide_eq_true_eq] at hB
      exact ⟨hB.2, hB.1.1.2⟩
    refine ⟨⟨n, fa, fd, q.ps, ih f q hq fa fd FD, hr, hm, FD.kp, hb⟩, (odd_of hd.1).1, fun rs mh hl => ?_⟩
    cases n with
    | zero => rfl
    | succ n =>
      show (match progOf df f with
        | some d => runF ⟨callN (progOf df) sub n, sub⟩ d rs mh
        | none => .stuck) = .stuck
      unfold progOf
      rw [hq]
      show runF _ q.d rs mh = .stuck
      unfold runF
      rw [if_neg fun z => hl (by rw [z.1, hd.2])]
theorem Facts.ok (F : Facts P w K mg T sub tb df) : ∀ n f q, dfAt df f = some q → ∀ (fa : Addr) (fd : FuncData), FunD K q.name q.name (defArgs q.st) (defBody q.st) (defScope q.st) [] [] fa fd → FnOk P w K mg base (L2N.CX P w) n fa fd q.ps (spM T q.ps.length (callN (progOf df) sub n f))
  | 0, f, q, hq, fa, fd, FD => ⟨fun vs H Q E ⟨_, rs, _, _, r, hl, _⟩ => by rw [r.length, hl], fun A outer s H args us vs Q E _ _ _ _ ⟨_, rs, mh, _, _, _, o⟩ => o.elim⟩
  | n + 1, f, q, hq, fa, fd, FD => by
    have hB := (F.fn q (dfAt_mem hq)).1
    unfold dfB at hB
    simp only [Bool.and_eq_true, Bool.not_eq_true', decide_eq_true_eq] at hB
    obtain ⟨⟨⟨⟨h1, h2⟩, h3⟩, h4⟩, h5⟩ := hB
    have S := fs_of h2
    refine FD.ok S (fun vs H Q E ⟨_, rs, _, _, r, hl, _⟩ => by rw [r.length, hl]) fun cdv A outer s H vs Q E hr hsp => ?_
    obtain ⟨w₀, rs, mh, R, r, hl, o⟩ := hsp
    have o : OG T (RvN T H) E w₀ H (match progOf df f with
        | some d => runF ⟨callN (progOf df) sub n, sub⟩ d rs mh
        | none => .stuck) Q := o
    unfold progOf at o
    rw [hq] at o
    have o : OG T (RvN T H) E w₀ H (runF ⟨callN (progOf df) sub n, sub⟩ q.d rs mh) Q := o
    unfold runF at o
    split at o
    · rename_i hh
      obtain ⟨g1, g2, g3⟩ := hh
      have R0 := start_rel (N := q.N) (ns := q.d.ns) R r g3 h4
      rw [g1] at R0
      have sg := OG.sg o
      have tk := L2N.takes_of (X := cxOf (L2N.CX P w) P w K mg base q.N q.name (defScope q.st) fa cdv A outer s H E) (E := E) rfl rfl rfl rfl
      have ps := passes_of (X := cxOf (L2N.CX P w) P w K mg base q.N q.name (defScope q.st) fa cdv A outer s H E) (K := fun e s'' => L2N.CX P w outer H s E e s'') rfl
      have cnd : CndS (mcOf tb q) (cxOf (L2N.CX P w) P w K mg base q.N q.name (defScope q.st) fa cdv A outer s H E) ⟨T, ⟨w₀, H⟩, fun cls d _ H => E cls d H⟩ ⟨callN (progOf df) sub n, sub⟩ := {
        c := {
          sc := rfl
          N := rfl
          ow := fun _ _ => rfl
          cm := rfl
          g := F.g
          u := by have := hr.un; show (A.deeper _).units + 200 < cLine; omega
          nd := S.nd
          fk := S.kind
          tk := tk
          bl := F.bl
          ty := F.ty
          bi := F.bi
          br := F.br
          bz := F.bz
          be := F.be
          fn := fun f x k h _ => F.fnAt (Facts.ok F n) (X := cxOf (L2N.CX P w) P w K mg base q.N q.name (defScope q.st) fa cdv A outer s H E) rfl rfl rfl rfl rfl hr f x k h
          gl := F.gl
          cx := fun _ => F.ex
          cn := fun c x own h => by
            obtain ⟨c1, cv, c2, c3, c4, c5⟩ := F.cn c x own h
            exact ⟨c1, cv, c2, c3, fun z => let ⟨d1, d2, d3, d4, d5⟩ := c4 z; ⟨d1, d2, d3, d4, d5, c1⟩, c5⟩
          hc := fun h => by cases h
          ht := fun h => by cases h
          xi := fun h => by cases h }
        ps := fun _ => ps
        stk := rfl
        fr := rfl
        ec := F.ec }
      exact ⟨_, sdSs q.d.body _ _ _ cnd _ h1, w₀, _, mh, R0, sg⟩
    · exact o.elim
end
end Mn
end
section
set_option linter.all false
set_option autoImplicit false
set_option maxRecDepth 100000
/-! Mini: what the head says; a law's end. -/
namespace Mn
open PySem PySem.Spec PyProof.Rows L2

/-! ### the head's Hook -/
def isListO (o : Obj) : Bool := match o.cls with
  | .type c => decide (c = "list")
  | _ => false
def frM (g : Addr → Option Obj) (n : Nat) : PySem.W.Frag := (He.frG g (He.asD g n)).filter fun p => !isListO p.2
theorem lookup_mem {κ α : Type} [BEq κ] [LawfulBEq κ] : ∀ {l : List (κ × α)} {a : κ} {o : α}, l.lookup a = some o → (a, o) ∈ l
  | (b, u) :: r, a, o, h => by
    rw [List.lookup_cons] at h
    cases e : a == b with
    | true => rw [e] at h; cases h; rw [eq_of_beq e]; exact List.mem_cons_self
    | false => rw [e] at h; exact List.mem_cons_of_mem _ (lookup_mem h)
theorem frG_mem {g : Addr → Option Obj} {as : List Addr} {p : Addr × Obj} (h : p ∈ He.frG g as) : g p.1 = some p.2 := by
  unfold He.frG at h
  obtain ⟨a, _, e⟩ := List.mem_filterMap.mp h
  cases q : g a with
  | none => rw [q] at e; cases e
  | some o => rw [q] at e; cases e; exact q
theorem frM_in {h : Heap} {n : Nat} : (frM h.get? n).In h := fun a o e => frG_mem (p := (a, o)) (List.mem_filter.mp (lookup_mem e)).1
def noList (K : PySem.W.Frag) : Prop := ∀ a o, K.lookup a = some o → isListO o = false
theorem frM_no {g : Addr → Option Obj} {n : Nat} : noList (frM g n) := fun a o e => by
  have := (List.mem_filter.mp (lookup_mem e)).2
  simpa using this
abbrev AlM : Type := He.AlD × Bool
def obsM (n : Nat) (fa : List He.Fa) (fn : List He.DefD) (ex : PySem.W.Frag → Bool) (g : Addr → Option Obj) : AlM := (He.obsD fa fn (frM g n), ex (frM g n))
def valM (fn : List He.DefD) : AlM := (He.valD fn, true)
def hookM (n : Nat) (fa : List He.Fa) (fn : List He.DefD) (ex : PySem.W.Frag → Bool) : PySem.W.Hook where
  α := AlM
  obs := fun s => obsM n fa fn ex s.heap.get?
  val := fun _ => valM fn
  says := fun _ h => ∃ K : PySem.W.Frag, K.In h ∧ noList K ∧ He.SaysD fa fn K ∧ ex K = true
  of := fun _ _ e => ⟨_, frM_in, frM_no, congrArg (fun z : AlM => z.1) e, congrArg (fun z : AlM => z.2) e⟩
  keeps := fun _ _ _ ⟨K, hK, c⟩ k => ⟨K, PySem.W.Frag.In.keeps hK k, c⟩
theorem obsM_eq {n : Nat} {fa : List He.Fa} {fn : List He.DefD} {ex : PySem.W.Frag → Bool} {g : Addr → Option Obj} {s : Shared} (h : ∀ a, g a = s.heap.get? a) : obsM n fa fn ex g = (hookM n fa fn ex).obs s := by
  have e : g = s.heap.get? := funext h
  rw [e] <;> rfl

/-! ### what is given of a law -/
structure Law where
  df : List Df
  cl : List (Nat × (Str × Bool))
  bs : Str
  sub : List ((Nat × Nat) × Bool)
  gl : List (Nat × (Str × PyData))
def Law.tb (l : Law) : Tab := ⟨fun f => (dfAt l.df f).map fun q => (q.name, q.ps.length), fun c => l.cl.lookup c, fun k => l.gl.lookup k⟩
def Law.subF (l : Law) (y c : Nat) : Option Bool := l.sub.lookup (y, c)
def bltNames : List Str := ["len", "sorted", "all", "any", "abs", "min", "tuple", "list", "dict", "int", "str", "bool", "isinstance", "range", "zip", "enumerate"]
def glFa (x : Str) : PyData → List He.Fa
  | .str z => [He.Fa.str x z]
  | .int i => [He.Fa.int x i]
  | _ => []
def glB1 : PyData → Bool
  | .str _ => true
  | .int _ => true
  | _ => false
def Law.fa (l : Law) : List He.Fa := l.df.map (fun q => He.Fa.glo q.name) ++ (bltNames.map He.Fa.free ++ (((l.cl.map (·.2)).filter fun q => q.2).flatMap (fun q => [He.Fa.glo q.1, He.Fa.exc q.1]) ++ (((l.cl.map (·.2)).filter fun q => !q.2).map (fun q => He.Fa.free q.1) ++ l.gl.flatMap fun q => glFa q.2.1 q.2.2)))
def Law.fn (l : Law) : List He.DefD := l.df.map fun q => ⟨(q.name, none), q.name, q.name, defArgs q.st, defBody q.st, defScope q.st, [], []⟩
def Law.ca (l : Law) (K : PySem.W.Frag) (y : Nat) : Addr := match l.cl.lookup y with
  | some (x, true) => He.ga K x
  | _ => He.ga K l.bs
def clsVal (K : PySem.W.Frag) (q : Str × Bool) : Value := if q.2 then .ref (He.ga K q.1) else (bootBuiltins q.1).getD .none
def excB (K : PySem.W.Frag) (D : Addr) : Bool :=
  He.eqO (PySem.W.findIn K (.ref D) "__getattribute__") (some (some (.builtin "BaseException.__getattribute__"))) && He.eqO (PySem.W.findIn K (.ref D) "__getattr__") (some none) &&
  decide (PySem.W.subIn K (.ref D) (.type "BaseException") = some true) && PySem.W.hasDictIn K D && He.eqO (PySem.W.findIn K (.ref D) "__class__") (some (some (.builtin "object.__class__"))) &&
  He.eqO (PySem.W.specialIn K (.builtin "object.__class__") "__get__") (some (some (.builtin "getset_descriptor.__get__"))) && decide (PySem.W.takesIn K (.builtin "object.__class__") = some true) && decide (PySem.W.mroIn K D (.type "object") = some true)
theorem exc_of {K : PySem.W.Frag} {D : Addr} (h : excB K D = true) : ExcC K D := by
  unfold excB at h
  simp only [Bool.and_eq_true, decide_eq_true_eq] at h
  obtain ⟨⟨⟨⟨⟨⟨⟨h1, h2⟩, h3⟩, h4⟩, h5⟩, h6⟩, h7⟩, h8⟩ := h
  exact ⟨He.eqO_ok h1, He.eqO_ok h2, h3, h4, He.eqO_ok h5, He.eqO_ok h6, h7, h8⟩
def Law.ex (l : Law) (K : PySem.W.Frag) : Bool := excB K (He.ga K l.bs) && (l.cl.all fun q => !q.2.2 || excB K (He.ga K q.2.1)) &&
  l.sub.all fun p => match l.cl.lookup p.1.2 with
    | some q => decide (PySem.W.exmOne K (.ref (l.ca K p.1.1)) (clsVal K q) = some p.2) && decide (PySem.W.kitOne K (.ref (l.ca K p.1.1)) (clsVal K q) = some p.2)
    | none => true
def isTypeV : Option Value → Bool
  | some (.type _) => true
  | _ => false
/-- what is looked at without the heap -/
def Law.okB (l : Law) : Bool := (l.df.all fun q => dfB l.tb q) && (l.cl.all fun q => !odd q.2.1 && (q.2.2 || (isTypeV (bootBuiltins q.2.1) && !decide (q.2.1 = "__name__")))) && l.gl.all fun q => !odd q.2.1 && glB1 q.2.2
def BindOk (q : Df) : Prop := ∀ (kV doc pm : Value) (an : Option Addr) (cdv ct : Value) (us : List Value), us.length = q.ps.length → bindArgs (PySem.W.fnOf q.name q.name (defArgs q.st) (defBody q.st) (defScope q.st) .none kV doc pm an cdv ct) ⟨us, []⟩ = pure (q.ps.zip us)
section
variable {P : Program} {w : World} {K : PySem.W.Frag} {h : Heap} {mg : Str → Option Value} {l : Law}
theorem Law.facts (l : Law) (hk : l.okB = true) (hb : ∀ q ∈ l.df, BindOk q) (X : K.In h) (G : h.Ns mainGlobals mg) (c : He.SaysD l.fa l.fn K) (ex : l.ex K = true) : Facts P w K mg ⟨⟨P, w⟩, l.ca K, fun _ => Str.empty, fun _ => Str.empty, none⟩ l.subF l.tb l.df := by
  unfold Law.okB at hk
  simp only [Bool.and_eq_true, List.all_eq_true] at hk
  obtain ⟨⟨k1, k2⟩, k3⟩ := hk
  unfold Law.ex at ex
  simp only [Bool.and_eq_true, List.all_eq_true] at ex
  obtain ⟨⟨x1, x2⟩, x3⟩ := ex
  have free : ∀ x ∈ bltNames, mg x = none := fun x hx => He.free_ok X G (c.facts (f := .free x) (List.mem_append_right _ (List.mem_append_left _ (List.mem_map_of_mem hx))))
  have own : ∀ q ∈ l.cl.map (·.2), q.2 = true → mg q.1 = some (.ref (He.ga K q.1)) ∧ (He.Fa.exc q.1).ok K = true := fun q hq h2 => by
    have hm : q ∈ (l.cl.map (·.2)).filter fun q => q.2 := List.mem_filter.mpr ⟨hq, h2⟩
    have a1 : He.Fa.glo q.1 ∈ l.fa := List.mem_append_right _ (List.mem_append_right _ (List.mem_append_left _ (List.mem_flatMap.mpr ⟨q, hm, List.mem_cons_self⟩)))
    have a2 : He.Fa.exc q.1 ∈ l.fa := List.mem_append_right _ (List.mem_append_right _ (List.mem_append_left _ (List.mem_flatMap.mpr ⟨q, hm, List.mem_cons_of_mem _ List.mem_cons_self⟩)))
    exact ⟨He.glo_ok X G (c.facts a1), c.facts a2⟩
  have ec : ∀ y, ExcC K (l.ca K y) := fun y => by
    unfold Law.ca
    split
    · rename_i x e
      have := x2 _ (lookup_mem e)
      simp at this
      exact exc_of this
    · exact exc_of x1
  refine ⟨rfl, rfl, fun b => free _ (by cases b <;> decide), fun t ht => free _ (by cases t <;> first | exact absurd rfl ht | decide), free _ (by decide), free _ (by decide), free _ (by decide), free _ (by decide), fun k x d e => ?_, fun cc x o e => ?_, ec, fun f => rfl, fun q hq => ?_⟩
  · have e : l.gl.lookup k = some (x, d) := e
    have hp := lookup_mem e
    have ho := k3 (k, (x, d)) hp
    simp only [Bool.and_eq_true, Bool.not_eq_true'] at ho
    have mem : ∀ f ∈ glFa x d, f ∈ l.fa := fun f hf => List.mem_append_right _ (List.mem_append_right _ (List.mem_append_right _ (List.mem_append_right _ (List.mem_flatMap.mpr ⟨(k, (x, d)), hp, hf⟩))))
    cases d with
    | str z =>
      obtain ⟨t, ht⟩ := He.str_ok X G (c.facts (mem (He.Fa.str x z) List.mem_cons_self))
      exact ⟨.str z, _, ht, ⟨t, rfl⟩, (odd_of ho.1).1, fun F H => .str _⟩
    | int i =>
      obtain ⟨t, ht⟩ := He.int_ok X G (c.facts (mem (He.Fa.int x i) List.mem_cons_self))
      exact ⟨.int i, _, ht, ⟨t, rfl⟩, (odd_of ho.1).1, fun F H => .int _⟩
    | _ => exact absurd ho.2 (by simp [glB1])
  · have e : l.cl.lookup cc = some (x, o) := e
    have hm' := lookup_mem e
    have hm : (x, o) ∈ l.cl.map (·.2) := List.mem_map.mpr ⟨_, hm', rfl⟩
    have h2 := k2 _ hm'
    simp only [Bool.and_eq_true, Bool.not_eq_true'] at h2
    obtain ⟨g1, g2⟩ := h2
    have subs : ∀ y b, l.subF y cc = some b → PySem.W.exmOne K (.ref (l.ca K y)) (clsVal K (x, o)) = some b ∧ PySem.W.kitOne K (.ref (l.ca K y)) (clsVal K (x, o)) = some b := fun y b hs => by
      have := x3 _ (lookup_mem hs)
      dsimp only at this
      rw [e] at this
      simp only [Bool.and_eq_true, decide_eq_true_eq] at this
      exact this
    refine ⟨(odd_of g1).1, clsVal K (x, o), ?_, ?_, ?_, subs⟩
    · cases o with
      | true => exact ⟨.ref (He.ga K x), rfl, fun u r => r⟩
      | false =>
        simp only [Bool.false_or, Bool.and_eq_true] at g2
        have g3 := g2.1
        show ∃ v, RelV v ((bootBuiltins x).getD .none) ∧ ∀ u, RelV v u → u = (bootBuiltins x).getD .none
        cases hbb : bootBuiltins x with
        | none => rw [hbb] at g3; cases g3
        | some v =>
          rw [hbb] at g3
          cases v <;> first | (exact ⟨.ty _, rfl, fun u r => r⟩) | cases g3
    · cases o with
      | true => exact .inl (own _ hm rfl).1
      | false =>
        simp only [Bool.false_or, Bool.and_eq_true, Bool.not_eq_true', decide_eq_false_iff_not] at g2
        have hmem : (x, false) ∈ (l.cl.map (·.2)).filter fun q => !q.2 := List.mem_filter.mpr ⟨hm, rfl⟩
        have a : He.Fa.free x ∈ l.fa := List.mem_append_right _ (List.mem_append_right _ (List.mem_append_right _ (List.mem_append_left _ (List.mem_map.mpr ⟨(x, false), hmem, rfl⟩))))
        refine .inr ⟨He.free_ok X G (c.facts a), ?_, g2.2⟩
        show bootBuiltins x = some ((bootBuiltins x).getD .none)
        cases hbb : bootBuiltins x with
        | none => have g3 := g2.1; rw [hbb] at g3; cases g3
        | some v => rfl
    · intro ho
      subst ho
      obtain ⟨o1, o2⟩ := own _ hm rfl
      obtain ⟨z1, z2, z3, z4⟩ := He.exc_ok o2
      have hca : l.ca K cc = He.ga K x := by unfold Law.ca; rw [e]
      show PySem.W.excIn K (l.ca K cc) veMro "ValueError.__new__" = true ∧ _
      show _ ∧ mg x = some (.ref (l.ca K cc)) ∧ PySem.W.keepIn K (.ref (l.ca K cc)) = true ∧ PySem.W.subIn K (.ref (l.ca K cc)) (.type "BaseException") = some true ∧ PySem.W.typeIn K (.ref (l.ca K cc)) = some (.type "type")
      rw [hca]
      exact ⟨z1, o1, z2, z3, z4⟩
  · have a : He.Fa.glo q.name ∈ l.fa := List.mem_append_left _ (List.mem_map.mpr ⟨q, hq, rfl⟩)
    have d : (⟨(q.name, none), q.name, q.name, defArgs q.st, defBody q.st, defScope q.st, [], []⟩ : He.DefD) ∈ l.fn := List.mem_map.mpr ⟨q, hq, rfl⟩
    obtain ⟨fd, FD⟩ := c.defs d
    exact ⟨k1 q hq, _, fd, FD, He.glo_ok X G (c.facts a), FunD.bindsN FD (hb q hq)⟩
/-- the script -/
def scriptD (ns : List Int) : PyData := .list (ns.map .int)
theorem dvA_ints {g : Pw} {F : Addr → Prop} {H : Hp} : ∀ ns : List Int, DvA g F H (ns.map V.int) (ns.map PyData.int)
  | [] => .nil
  | n :: ns => .cons (.int n) (dvA_ints ns)
theorem FnOk.cx {base : Heap} {CX CX' : CXT} {k : Nat} {f : Addr} {fd : FuncData} {ps : List Str} {sp : Sp} (F : FnOk P w K mg base CX k f fd ps sp) (h : ∀ o H s E e s', CX o H s E e s' → CX' o H s E e s') : FnOk P w K mg base CX' k f fd ps sp :=
  ⟨F.len, fun A outer s H args us vs Q E hr e0 hb r hsp => codeAny_mono (F.run A outer s H args us vs Q E hr e0 hb r hsp) fun r s' hq => by
    cases r with
    | error e => exact h _ _ _ _ _ _ hq
    | ok fl => cases fl <;> exact hq⟩
/-- a law's end: what its def answers is True -/
theorem Law.walk {L : PySem.W.OpenLaw} {q : Program} {loose : List Str} {XP : (Str → Option Value) → Heap → Prop} {d : DefRec} {n k : Nat} {f : Nat} {dq : Df} (l : Law) (N : Nat) (hk : l.okB = true) (hb : ∀ q ∈ l.df, BindOk q)
    (hn : L.most = some n) (hn2 : n ≤ sizeLine) (hdf : d.params.defaults = []) (hr : Room k callerA) (hf : dfAt l.df f = some dq) (hname : d.name = dq.name) (hps : ∃ x, dq.ps = [x])
    (run : ∀ ns : List Int, ns.length ≤ n → ∃ mh, callN (progOf l.df) l.subF k f [.dat (scriptD ns)] [] = .ok (.dat (.bool true)) mh) :
    PySem.W.WalkO q loose XP (hookM N l.fa l.fn l.ex).says L.row.toRowW d [] (fun f vs => PySem.call f vs) := by
  obtain ⟨x, hx⟩ := hps
  have hmem := dfAt_mem hf
  refine L2.walk_ofE (l := L) (n := n) (k := k) (x := x) (CX := fun o H s E e s' => ∃ w, L2N.CX L.prog w o H s E e s') hn hn2 hdf hr ?_ ?_
  · intro w mg fa h Y G hmg0
    obtain ⟨K, KX, nl, c, ex⟩ := Y
    have F : Facts L.prog w K mg _ l.subF l.tb l.df := l.facts hk hb KX G c ex
    obtain ⟨_, fa', fd, FD, hm, _⟩ := F.fn dq hmem
    have e : fa' = fa := by
      rw [← hname, hmg0] at hm
      cases hm; rfl
    subst e
    refine ⟨K, fd, spM ⟨⟨L.prog, w⟩, l.ca K, fun _ => Str.empty, fun _ => Str.empty, none⟩ dq.ps.length (callN (progOf l.df) l.subF k f), KX, fun s u => ?_, fun H a ns hl hO hS => ?_, fun base _ _ => ?_⟩
    · have := FunD.bindsA (ps := dq.ps) FD (hb dq hmem) s [u] (by rw [hx]; rfl)
      rw [hx] at this
      exact this
    · obtain ⟨mh, hrun⟩ := run ns hl
      have hrd : Rd H a (.lst (ns.map V.int)) := by
        rcases hS with h1 | ⟨o, its, nn, e1, e2, _⟩
        · exact h1
        · have := nl a o e1
          unfold isListO at this
          rw [e2] at this
          simp at this
      have hthere : ∃ o, H a = some o := by
        rcases hrd with e | ⟨o, e⟩
        · exact ⟨_, e⟩
        · exact ⟨_, e⟩
      refine ⟨⟨fun b => b = a, []⟩, [.dat (scriptD ns)], [], ⟨rfl, List.nodup_nil, fun b e => by subst e; exact hthere, fun b h => (by cases h), fun n c b h => (by simp at h), fun n c b h => (by simp at h)⟩, .cons ?_ .nil, by rw [hx]; rfl, ?_⟩
      · exact .lst rfl hrd (dvA_ints ns)
      · rw [hrun]
        intro w' v H' _ _ r
        cases r.1
        rfl
    · have := FnOk.cx (CX' := fun o H s E e s' => ∃ w, L2N.CX L.prog w o H s E e s') (Facts.ok (base := base) F k f dq hf fa' fd FD) fun o H s E e s' h => ⟨w, h⟩
      rw [hx] at this ⊢
      exact this
  · intro H s e s' h
    obtain ⟨w, _, _, _, _, _, _, _, _, _, _, _, _, z⟩ := h
    exact z
end
end Mn
end
section
open PySem PySem.Spec PyProof.Rows L2
namespace Mn.Fn
def x_law_all : FDef := ⟨1, 6, (.cons (.asg (.nm 1) (.lst (.cons (.tup .nil) .nil))) (.cons (.for_ (.nm 2) (.of (.var 0)) (.cons (.asg (.nm 3) (.lst .nil)) (.cons (.for_ (.nm 4) (.of (.var 1)) (.cons (.asg (.nm 3) (.bin .Add (.var 3) (.comp (.bin .Add (.var 4) (.tup (.cons (.var 5) .nil))) (.nm 5) (.of (.idx (.var 2) (.cst (.int 1)))) (.cst (.bool true)) [5]))) .nil)) (.cons (.asg (.nm 1) (.var 3)) .nil)))) (.cons (.ret (.var 1)) .nil)))⟩
def x_law_book : FDef := ⟨4, 7, (.cons (.asg (.nm 4) (.cst .none)) (.cons (.if_ (.not_ (.var 3)) (.cons (.asg (.nm 4) (.pcall 154 (.cons (.var 1) (.cons (.call 143 (.cons (.var 0) (.cons (.var 1) .nil))) .nil)))) .nil) .nil) (.cons (.asg (.nm 5) (.comp (.call 131 (.cons (.var 0) (.cons (.var 1) (.cons (.var 4) .nil)))) (.nm 6) (.rng1 (.call 103 (.cons (.var 0) (.cons (.bin .Add (.var 2) (.cst (.int 1))) .nil)))) (.cst (.bool true)) [6])) (.cons (.ret (.tup (.cons (.var 1) (.cons (.blt .tup (.cons (.var 5) .nil)) .nil)))) .nil))))⟩
def x_law_draws : FDef := ⟨2, 9, (.cons (.asg (.nm 2) (.comp (.blt .abs (.cons (.blt .int (.cons (.var 3) .nil)) .nil)) (.nm 3) (.of (.slc false true (.var 0) (.cst .none) (.cst (.int 63)))) (.cst (.bool true)) [3])) (.cons (.if_ (.not_ (.var 2)) (.cons (.asg (.nm 2) (.lst (.cons (.cst (.int 0)) .nil))) .nil) .nil) (.cons (.asgO 4 (.blt .lst (.cons (.var 2) .nil))) (.cons (.asgO 5 (.lst .nil)) (.cons (.for_ (.nm 6) (.rng1 (.var 1)) (.cons (.asg (.nm 7) (.bin .Mod (.blt .int (.cons (.var 6) .nil)) (.blt .len (.cons (.var 2) .nil)))) (.cons (.if_ (.and_ (.cmp .GtE (.idx (.var 2) (.var 7)) (.bin .Pow (.cst (.int 10)) (.cst (.int 18)))) (.cmp .Gt (.idx (.var 4) (.var 7)) (.cst (.int 0)))) (.cons (.app 5 (.bin .Mod (.blt .int (.cons (.idx (.var 4) (.var 7)) .nil)) (.cst (.int 1000)))) (.cons (.setI 4 (.var 7) (.bin .FloorDiv (.idx (.var 4) (.var 7)) (.cst (.int 1000)))) .nil)) (.cons (.asg (.nm 8) (.bin .Mod (.blt .int (.cons (.bin .Add (.bin .Mult (.bin .Add (.idx (.var 2) (.var 7)) (.cst (.int 7))) (.cst (.int 48271))) (.bin .Mult (.bin .Add (.var 6) (.cst (.int 1))) (.cst (.int 69621)))) .nil)) (.cst (.int 2147483647)))) (.cons (.asg (.nm 8) (.bin .Mod (.blt .int (.cons (.bin .Add (.bin .Add (.bin .Mult (.var 8) (.cst (.int 16807))) (.bin .Mult (.bin .Mult (.var 6) (.var 6)) (.cst (.int 40692)))) (.cst (.int 12345))) .nil)) (.cst (.int 2147483399)))) (.cons (.app 5 (.bin .FloorDiv (.var 8) (.cst (.int 64)))) .nil)))) .nil))) (.cons (.retM (.var 5)) .nil))))))⟩
def x_law_edit : FDef := ⟨3, 5, (.cons (.asgO 3 (.lst .nil)) (.cons (.for_ (.nm 4) (.of (.var 1)) (.cons (.if_ (.and_ (.cmp .Lt (.blt .len (.cons (.var 3) .nil)) (.var 2)) (.cmp .Eq (.call 103 (.cons (.var 0) (.cons (.cst (.int 2)) .nil))) (.cst (.int 1)))) (.cons (.app 3 (.tup (.cons (.idx (.var 4) (.cst (.int 0))) (.cons (.idx (.idx (.var 4) (.cst (.int 1))) (.call 103 (.cons (.var 0) (.cons (.blt .len (.cons (.idx (.var 4) (.cst (.int 1))) .nil)) .nil)))) .nil)))) .nil) .nil) .nil)) (.cons (.ret (.blt .tup (.cons (.var 3) .nil))) .nil)))⟩
def x_law_ground : FDef := ⟨2, 6, (.cons (.asgO 2 (.lst .nil)) (.cons (.asg (.nm 3) (.lst (.cons (.cst (.str "a")) (.cons (.cst (.str "b1")) (.cons (.cst (.str "c")) (.cons (.cst (.str "dd")) (.cons (.cst (.str "e")) .nil))))))) (.cons (.for_ (.nm 4) (.rng1 (.bin .Add (.bin .Add (.cst (.int 1)) (.blt .int (.cons (.cmp .Gt (.call 103 (.cons (.var 0) (.cons (.cst (.int 9)) .nil))) (.cst (.int 0))) .nil))) (.call 103 (.cons (.var 0) (.cons (.bin .Sub (.var 1) (.cst (.int 1))) .nil))))) (.cons (.asg (.nm 5) (.idx (.lst (.cons (.tup (.cons (.cst (.str "0")) (.cons (.cst (.str "1")) .nil))) (.cons (.tup (.cons (.cst (.str "no")) (.cons (.cst (.str "yes")) .nil))) (.cons (.tup (.cons (.cst (.str "x")) (.cons (.cst (.str "y")) (.cons (.cst (.str "z")) .nil)))) (.cons (.tup (.cons (.cst (.str "0")) (.cons (.cst (.str "1")) .nil))) (.cons (.tup (.cons (.cst (.str "2a")) (.cons (.cst (.str "b")) .nil))) (.cons (.tup (.cons (.cst (.str "u")) .nil)) .nil))))))) (.call 103 (.cons (.var 0) (.cons (.cst (.int 6)) .nil))))) (.cons (.app 2 (.tup (.cons (.idx (.var 3) (.var 4)) (.cons (.var 5) .nil)))) .nil))) (.cons (.ret (.blt .tup (.cons (.var 2) .nil))) .nil))))⟩
def x_law_has : FDef := ⟨3, 5, (.cons (.asg (.nm 3) (.pcall 154 (.cons (.var 0) (.cons (.var 1) .nil)))) (.cons (.ret (.cmp .Eq (.comp (.var 4) (.nm 4) (.of (.var 2)) (.cmp .NotEq (.idx (.var 3) (.idx (.var 4) (.cst (.int 0)))) (.idx (.var 4) (.cst (.int 1)))) [4]) (.lst .nil))) .nil))⟩
def x_law_keeps : FDef := ⟨2, 2, (.cons (.if_ (.cmp .Eq (.idx (.var 0) (.cst (.int 0))) (.cst (.str "only"))) (.cons (.ret (.cmp .In (.idx (.var 1) (.idx (.var 0) (.cst (.int 1)))) (.idx (.var 0) (.cst (.int 2))))) .nil) .nil) (.cons (.if_ (.cmp .Eq (.idx (.var 0) (.cst (.int 0))) (.cst (.str "pairs"))) (.cons (.ret (.cmp .In (.tup (.cons (.idx (.var 1) (.idx (.var 0) (.cst (.int 1)))) (.cons (.idx (.var 1) (.idx (.var 0) (.cst (.int 2)))) .nil))) (.idx (.var 0) (.cst (.int 3))))) .nil) .nil) (.cons (.ret (.or_ (.cmp .Eq (.idx (.var 1) (.idx (.var 0) (.cst (.int 1)))) (.idx (.var 0) (.cst (.int 2)))) (.cmp .Eq (.idx (.var 1) (.idx (.var 0) (.cst (.int 3)))) (.idx (.var 0) (.cst (.int 4)))))) .nil)))⟩
def x_law_kind_4 : FDef := ⟨3, 6, (.cons (.try_ (.cons (.if_ (.cmp .Eq (.var 0) (.cst (.str "rule"))) (.cons (.expr (.pcall 282 (.cons (.var 1) (.cons (.var 2) .nil)))) .nil) (.cons (.expr (.pcall 209 (.cons (.var 1) (.cons (.var 2) .nil)))) .nil)) .nil) 5 (some 3) (.cons (.asg (.nm 4) (.lst (.cons (.isx 3 15) (.cons (.isx 3 11) (.cons (.isx 3 29) .nil))))) (.cons (.ret (.comp (.idx (.lst (.cons (.cst (.str "ground")) (.cons (.cst (.str "book")) (.cons (.cst (.str "state")) .nil)))) (.var 5)) (.nm 5) (.rng1 (.cst (.int 3))) (.idx (.var 4) (.var 5)) [5])) .nil))) (.cons (.ret (.lst .nil)) .nil))⟩
def x_law_next : FDef := ⟨2, 2, (.cons (.if_ (.not_ (.var 0)) (.cons (.ret (.cst (.int 0))) .nil) .nil) (.cons (.ret (.bin .Mod (.blt .int (.cons (.popA (.var 0) (.cons (.cst (.int 0)) .nil)) .nil)) (.var 1))) .nil))⟩
def x_law_pairs_of : FDef := ⟨4, 9, (.cons (.asgO 4 (.blt .lst (.cons (.idx (.var 1) (.cst (.int 1))) .nil))) (.cons (.asgO 5 (.blt .lst (.cons (.idx (.var 2) (.cst (.int 1))) .nil))) (.cons (.asgO 6 (.lst .nil)) (.cons (.if_ (.cmp .IsNot (.var 3) (.cst .none)) (.cons (.app 6 (.tup (.cons (.idx (.var 3) (.idx (.var 1) (.cst (.int 0)))) (.cons (.idx (.var 3) (.idx (.var 2) (.cst (.int 0)))) .nil)))) (.cons (.rem 4 (.idx (.var 3) (.idx (.var 1) (.cst (.int 0))))) (.cons (.rem 5 (.idx (.var 3) (.idx (.var 2) (.cst (.int 0))))) .nil))) .nil) (.cons (.asg (.nm 7) (.call 103 (.cons (.var 0) (.cons (.cst (.int 3)) .nil)))) (.cons (.for_ (.nm 8) (.rng1 (.blt .min2 (.cons (.blt .len (.cons (.var 4) .nil)) (.cons (.blt .len (.cons (.var 5) .nil)) .nil)))) (.cons (.if_ (.cmp .Gt (.call 103 (.cons (.var 0) (.cons (.cst (.int 4)) .nil))) (.cst (.int 0))) (.cons (.app 6 (.tup (.cons (.idx (.var 4) (.var 8)) (.cons (.idx (.var 5) (.bin .Mod (.blt .int (.cons (.bin .Add (.var 8) (.var 7)) .nil)) (.blt .len (.cons (.var 5) .nil)))) .nil)))) .nil) .nil) .nil)) (.cons (.ret (.blt .tup (.cons (.blt .sorted (.cons (.var 6) .nil)) .nil))) .nil)))))))⟩
def x_law_rule : FDef := ⟨3, 10, (.cons (.asg (.nm 3) (.idx (.var 1) (.call 103 (.cons (.var 0) (.cons (.blt .len (.cons (.var 1) .nil)) .nil))))) (.cons (.asg (.nm 4) (.idx (.var 1) (.call 103 (.cons (.var 0) (.cons (.blt .len (.cons (.var 1) .nil)) .nil))))) (.cons (.asg (.nm 5) (.call 103 (.cons (.var 0) (.cons (.cst (.int 7)) .nil)))) (.cons (.if_ (.or_ (.cmp .Eq (.var 5) (.cst (.int 0))) (.cmp .Eq (.var 3) (.var 4))) (.cons (.asg (.nm 6) (.comp (.var 7) (.nm 7) (.of (.idx (.var 3) (.cst (.int 1)))) (.or_ (.cmp .Gt (.call 103 (.cons (.var 0) (.cons (.cst (.int 3)) .nil))) (.cst (.int 0))) (.and_ (.cmp .IsNot (.var 2) (.cst .none)) (.cmp .Eq (.idx (.var 2) (.idx (.var 3) (.cst (.int 0)))) (.var 7)))) [7])) (.cons (.ret (.tup (.cons (.cst (.str "only")) (.cons (.idx (.var 3) (.cst (.int 0))) (.cons (.blt .tup (.cons (.var 6) .nil)) .nil))))) .nil)) .nil) (.cons (.if_ (.cmp .Lt (.var 5) (.cst (.int 4))) (.cons (.ret (.tup (.cons (.cst (.str "pairs")) (.cons (.idx (.var 3) (.cst (.int 0))) (.cons (.idx (.var 4) (.cst (.int 0))) (.cons (.call 116 (.cons (.var 0) (.cons (.var 3) (.cons (.var 4) (.cons (.var 2) .nil))))) .nil)))))) .nil) .nil) (.cons (.asg (.nm 8) (.idx (.idx (.var 3) (.cst (.int 1))) (.call 103 (.cons (.var 0) (.cons (.blt .len (.cons (.idx (.var 3) (.cst (.int 1))) .nil)) .nil))))) (.cons (.asg (.nm 9) (.idx (.idx (.var 4) (.cst (.int 1))) (.call 103 (.cons (.var 0) (.cons (.blt .len (.cons (.idx (.var 4) (.cst (.int 1))) .nil)) .nil))))) (.cons (.if_ (.and_ (.cmp .IsNot (.var 2) (.cst .none)) (.and_ (.cmp .NotEq (.idx (.var 2) (.idx (.var 3) (.cst (.int 0)))) (.var 8)) (.cmp .NotEq (.idx (.var 2) (.idx (.var 4) (.cst (.int 0)))) (.var 9)))) (.cons (.asg (.nm 8) (.idx (.var 2) (.idx (.var 3) (.cst (.int 0))))) .nil) .nil) (.cons (.ret (.tup (.cons (.cst (.str "either")) (.cons (.idx (.var 3) (.cst (.int 0))) (.cons (.var 8) (.cons (.idx (.var 4) (.cst (.int 0))) (.cons (.var 9) .nil))))))) .nil)))))))))⟩
def x_law_state : FDef := ⟨2, 3, (.cons (.ret (.blt .tup (.cons (.comp (.idx (.idx (.var 2) (.cst (.int 1))) (.call 103 (.cons (.var 0) (.cons (.blt .len (.cons (.idx (.var 2) (.cst (.int 1))) .nil)) .nil)))) (.nm 2) (.of (.var 1)) (.cst (.bool true)) [2]) .nil))) .nil)⟩
def x_law_states : FDef := ⟨1, 5, (.cons (.asgO 1 (.lst .nil)) (.cons (.for_ (.nm 2) (.of (.pcall 4 (.cons (.idx (.var 0) (.cst (.int 0))) .nil))) (.cons (.asg (.nm 3) (.pcall 154 (.cons (.idx (.var 0) (.cst (.int 0))) (.cons (.var 2) .nil)))) (.cons (.if_ (.cmp .Eq (.comp (.var 4) (.nm 4) (.of (.idx (.var 0) (.cst (.int 1)))) (.not_ (.pcall 82 (.cons (.var 4) (.cons (.var 3) .nil)))) [4]) (.lst .nil)) (.cons (.app 1 (.var 2)) .nil) .nil) .nil))) (.cons (.ret (.var 1)) .nil)))⟩
def x_law_told : FDef := ⟨2, 4, (.cons (.asgO 2 (.dsp .nil)) (.cons (.for_ (.nm 3) (.rng1 (.blt .len (.cons (.var 0) .nil))) (.cons (.setI 2 (.idx (.idx (.var 0) (.var 3)) (.cst (.int 0))) (.idx (.var 1) (.var 3))) .nil)) (.cons (.ret (.var 2)) .nil)))⟩
def x_law_wide : FDef := ⟨1, 2, (.cons (.ret (.blt .tup (.cons (.comp (.tup (.cons (.bin .Add (.cst (.str "n")) (.blt .str (.cons (.bin .Add (.cst (.int 100)) (.var 1)) .nil))) (.cons (.tup (.cons (.cst (.str "0")) (.cons (.cst (.str "1")) .nil))) .nil))) (.nm 1) (.rng1 (.var 0)) (.cst (.bool true)) [1]) .nil))) .nil)⟩
def x_law_wrongs : FDef := ⟨1, 6, (.cons (.asg (.nm 1) (.idx (.idx (.var 0) (.cst (.int 0))) (.cst (.int 0)))) (.cons (.asg (.nm 2) (.idx (.idx (.idx (.var 0) (.cst (.int 0))) (.cst (.int 1))) (.cst (.int 0)))) (.cons (.asgO 3 (.lst (.cons (.cst .none) (.cons (.tup .nil) (.cons (.tup (.cons (.cst (.str "only")) .nil)) (.cons (.tup (.cons (.cst (.str "only")) (.cons (.var 1) .nil))) (.cons (.tup (.cons (.cst (.str "only")) (.cons (.var 1) (.cons (.var 2) .nil)))) (.cons (.tup (.cons (.cst (.str "only")) (.cons (.var 1) (.cons (.lst (.cons (.var 2) .nil)) .nil)))) (.cons (.tup (.cons (.cst (.str "only")) (.cons (.cst (.str "zz")) (.cons (.tup (.cons (.var 2) .nil)) .nil)))) (.cons (.tup (.cons (.cst (.str "only")) (.cons (.var 1) (.cons (.tup (.cons (.cst (.str "?")) .nil)) .nil)))) .nil)))))))))) (.cons (.asgO 3 (.cat (.var 3) (.lst (.cons (.tup (.cons (.cst (.str "only")) (.cons (.var 1) (.cons (.tup (.cons (.var 2) (.cons (.var 2) .nil))) .nil)))) (.cons (.tup (.cons (.cst (.str "only")) (.cons (.var 1) (.cons (.tup (.cons (.var 2) .nil)) (.cons (.cst (.int 0)) .nil))))) (.cons (.tup (.cons (.cst (.str "Only")) (.cons (.var 1) (.cons (.tup (.cons (.var 2) .nil)) .nil)))) (.cons (.lst (.cons (.cst (.str "only")) (.cons (.var 1) (.cons (.tup (.cons (.var 2) .nil)) .nil)))) (.cons (.tup (.cons (.cst (.str "only")) (.cons (.cst .none) (.cons (.tup (.cons (.var 2) .nil)) .nil)))) .nil)))))))) (.cons (.asgO 3 (.cat (.var 3) (.lst (.cons (.tup (.cons (.cst (.str "pairs")) (.cons (.var 1) (.cons (.var 1) (.cons (.tup .nil) .nil))))) (.cons (.tup (.cons (.cst (.str "pairs")) (.cons (.var 1) .nil))) (.cons (.tup (.cons (.cst (.str "either")) (.cons (.var 1) (.cons (.var 2) (.cons (.var 1) (.cons (.var 2) .nil)))))) (.cons (.tup (.cons (.cst (.str "either")) (.cons (.var 1) (.cons (.var 2) .nil)))) (.cons (.tup (.cons (.var 1) (.cons (.cst (.str "only")) (.cons (.tup (.cons (.var 2) .nil)) .nil)))) (.cons (.cst (.str "only")) (.cons (.cst (.int 3)) .nil)))))))))) (.cons (.asgO 3 (.cat (.var 3) (.lst (.cons (.tup (.cons (.cst (.str "only")) (.cons (.var 1) (.cons (.bin .Add (.blt .tup (.cons (.rev (.blt .lst (.cons (.idx (.idx (.var 0) (.cst (.int 0))) (.cst (.int 1))) .nil))) .nil)) (.tup (.cons (.var 2) .nil))) .nil)))) (.cons (.tup (.cons (.cst (.str "both")) (.cons (.var 1) (.cons (.var 2) (.cons (.var 1) (.cons (.var 2) .nil)))))) (.cons (.tup (.cons (.cst (.str "pairs")) (.cons (.var 1) (.cons (.cst (.str "zz")) (.cons (.tup .nil) .nil))))) (.cons (.tup (.cons (.cst .none) (.cons (.var 1) (.cons (.tup .nil) .nil)))) .nil))))))) (.cons (.if_ (.cmp .Gt (.blt .len (.cons (.var 0) .nil)) (.cst (.int 1))) (.cons (.asg (.nm 4) (.idx (.idx (.var 0) (.cst (.int 1))) (.cst (.int 0)))) (.cons (.asg (.nm 5) (.idx (.idx (.idx (.var 0) (.cst (.int 1))) (.cst (.int 1))) (.cst (.int 0)))) (.cons (.asgO 3 (.cat (.var 3) (.lst (.cons (.tup (.cons (.cst (.str "pairs")) (.cons (.var 1) (.cons (.var 4) .nil)))) (.cons (.tup (.cons (.cst (.str "pairs")) (.cons (.var 1) (.cons (.var 4) (.cons (.cst .none) .nil))))) (.cons (.tup (.cons (.cst (.str "pairs")) (.cons (.var 1) (.cons (.var 4) (.cons (.lst (.cons (.tup (.cons (.var 2) (.cons (.var 5) .nil))) .nil)) .nil))))) (.cons (.tup (.cons (.cst (.str "pairs")) (.cons (.var 1) (.cons (.var 4) (.cons (.tup (.cons (.tup (.cons (.var 2) (.cons (.var 5) .nil))) (.cons (.tup (.cons (.var 2) (.cons (.var 5) .nil))) .nil))) .nil))))) .nil))))))) (.cons (.asgO 3 (.cat (.var 3) (.lst (.cons (.tup (.cons (.cst (.str "pairs")) (.cons (.var 1) (.cons (.var 4) (.cons (.tup (.cons (.tup (.cons (.var 2) .nil)) .nil)) .nil))))) (.cons (.tup (.cons (.cst (.str "pairs")) (.cons (.var 1) (.cons (.var 4) (.cons (.tup (.cons (.tup (.cons (.cst (.str "?")) (.cons (.var 5) .nil))) .nil)) .nil))))) (.cons (.tup (.cons (.cst (.str "pairs")) (.cons (.var 1) (.cons (.var 4) (.cons (.tup (.cons (.tup (.cons (.var 2) (.cons (.cst (.str "?")) .nil))) .nil)) .nil))))) (.cons (.tup (.cons (.cst (.str "pairs")) (.cons (.var 1) (.cons (.var 4) (.cons (.tup (.cons (.tup (.cons (.var 2) (.cons (.var 5) (.cons (.cst (.int 0)) .nil)))) .nil)) .nil))))) .nil))))))) (.cons (.asgO 3 (.cat (.var 3) (.lst (.cons (.tup (.cons (.cst (.str "either")) (.cons (.var 1) (.cons (.cst (.str "?")) (.cons (.var 4) (.cons (.var 5) .nil)))))) (.cons (.tup (.cons (.cst (.str "either")) (.cons (.var 1) (.cons (.var 2) (.cons (.var 4) (.cons (.cst (.str "?")) .nil)))))) (.cons (.tup (.cons (.cst (.str "either")) (.cons (.var 1) (.cons (.var 2) (.cons (.var 4) (.cons (.var 5) (.cons (.cst (.int 0)) .nil))))))) (.cons (.tup (.cons (.cst (.str "either")) (.cons (.var 1) (.cons (.var 2) (.cons (.cst (.str "zz")) (.cons (.var 5) .nil)))))) .nil))))))) (.cons (.asgO 3 (.cat (.var 3) (.lst (.cons (.tup (.cons (.cst (.str "either")) (.cons (.var 1) (.cons (.var 2) (.cons (.var 4) (.cons (.cst .none) .nil)))))) (.cons (.tup (.cons (.cst (.str "pairs")) (.cons (.var 1) (.cons (.var 4) (.cons (.tup .nil) (.cons (.tup .nil) .nil)))))) (.cons (.tup (.cons (.cst (.str "pairs")) (.cons (.var 4) (.cons (.var 4) (.cons (.tup .nil) .nil))))) (.cons (.tup (.cons (.cst (.str "either")) (.cons (.tup (.cons (.var 1) .nil)) (.cons (.var 2) (.cons (.var 4) (.cons (.var 5) .nil)))))) .nil))))))) (.cons (.if_ (.cmp .Gt (.blt .len (.cons (.idx (.idx (.var 0) (.cst (.int 1))) (.cst (.int 1))) .nil)) (.cst (.int 1))) (.cons (.app 3 (.tup (.cons (.cst (.str "pairs")) (.cons (.var 1) (.cons (.var 4) (.cons (.tup (.cons (.tup (.cons (.var 2) (.cons (.var 5) .nil))) (.cons (.tup (.cons (.var 2) (.cons (.idx (.idx (.idx (.var 0) (.cst (.int 1))) (.cst (.int 1))) (.cst (.int 1))) .nil))) .nil))) .nil)))))) (.cons (.app 3 (.tup (.cons (.cst (.str "pairs")) (.cons (.var 4) (.cons (.var 1) (.cons (.tup (.cons (.tup (.cons (.var 5) (.cons (.var 2) .nil))) (.cons (.tup (.cons (.idx (.idx (.idx (.var 0) (.cst (.int 1))) (.cst (.int 1))) (.cst (.int 1))) (.cons (.var 2) .nil))) .nil))) .nil)))))) .nil)) .nil) .nil))))))) .nil) (.cons (.ret (.var 3)) .nil))))))))⟩
def ask_book : FDef := ⟨1, 1, (.cons (.if_ (.not_ (.pcall 249 (.cons (.var 0) .nil))) (.cons (.raise 11 .nil) .nil) .nil) .nil)⟩
def ask_ground : FDef := ⟨1, 1, (.cons (.if_ (.not_ (.pcall 259 (.cons (.var 0) .nil))) (.cons (.raise 15 .nil) .nil) .nil) .nil)⟩
def broken_by : FDef := ⟨2, 5, (.cons (.expr (.pcall 183 (.cons (.var 0) .nil))) (.cons (.if_ (.not_ (.pcall 285 (.cons (.idx (.var 0) (.cst (.int 0))) (.cons (.var 1) .nil)))) (.cons (.raise 29 .nil) .nil) .nil) (.cons (.asg (.nm 2) (.pcall 384 (.cons (.idx (.var 0) (.cst (.int 0))) (.cons (.var 1) .nil)))) (.cons (.ret (.blt .tup (.cons (.comp (.var 3) (.cons (.nm 3) (.cons (.nm 4) .nil)) (.enum (.idx (.var 0) (.cst (.int 1)))) (.not_ (.pcall 300 (.cons (.var 4) (.cons (.var 2) .nil)))) [3, 4]) .nil))) .nil))))⟩
def is_book : FDef := ⟨1, 2, (.cons (.if_ (.or_ (.not_ (.pcall 274 (.cons (.var 0) .nil))) (.or_ (.not_ (.pcall 259 (.cons (.idx (.var 0) (.cst (.int 0))) .nil))) (.not_ (.isi (.idx (.var 0) (.cst (.int 1))) .tup)))) (.cons (.ret (.cst (.bool false))) .nil) .nil) (.cons (.ret (.and_ (.cmp .LtE (.blt .len (.cons (.idx (.var 0) (.cst (.int 1))) .nil)) (.glb 8 (.int 1000))) (.blt .all (.cons (.comp (.pcall 283 (.cons (.idx (.var 0) (.cst (.int 0))) (.cons (.var 1) .nil))) (.nm 1) (.of (.idx (.var 0) (.cst (.int 1)))) (.cst (.bool true)) [1]) .nil)))) .nil))⟩
def is_edit : FDef := ⟨2, 2, (.cons (.expr (.pcall 190 (.cons (.var 0) .nil))) (.cons (.ret (.pcall 253 (.cons (.var 0) (.cons (.var 1) .nil)))) .nil))⟩
def is_edit_of : FDef := ⟨2, 6, (.cons (.if_ (.not_ (.isi (.var 1) .tup)) (.cons (.ret (.cst (.bool false))) .nil) .nil) (.cons (.asg (.nm 2) (.blt .dct (.cons (.var 0) .nil))) (.cons (.for_ (.nm 3) (.of (.var 1)) (.cons (.if_ (.or_ (.not_ (.pcall 274 (.cons (.var 3) .nil))) (.or_ (.not_ (.isi (.idx (.var 3) (.cst (.int 0))) .str)) (.cmp .NotIn (.idx (.var 3) (.cst (.int 0))) (.var 2)))) (.cons (.ret (.cst (.bool false))) .nil) .nil) (.cons (.if_ (.not_ (.pcall 294 (.cons (.idx (.var 3) (.cst (.int 1))) (.cons (.idx (.var 2) (.idx (.var 3) (.cst (.int 0)))) .nil)))) (.cons (.ret (.cst (.bool false))) .nil) .nil) .nil))) (.cons (.ret (.pcall 280 (.cons (.comp (.var 4) (.cons (.nm 4) (.cons (.nm 5) .nil)) (.of (.var 1)) (.cst (.bool true)) [4, 5]) .nil))) .nil))))⟩
def is_ground : FDef := ⟨1, 4, (.cons (.if_ (.or_ (.not_ (.isi (.var 0) .tup)) (.not_ (.chain .LtE .LtE (.cst (.int 1)) (.blt .len (.cons (.var 0) .nil)) (.cst (.int 40))))) (.cons (.ret (.cst (.bool false))) .nil) .nil) (.cons (.for_ (.nm 1) (.of (.var 0)) (.cons (.if_ (.or_ (.not_ (.pcall 274 (.cons (.var 1) .nil))) (.or_ (.not_ (.pcall 265 (.cons (.idx (.var 1) (.cst (.int 0))) .nil))) (.not_ (.pcall 296 (.cons (.idx (.var 1) (.cst (.int 1))) (.cons (.cst (.int 1)) (.cons (.cst (.int 8)) .nil))))))) (.cons (.ret (.cst (.bool false))) .nil) .nil) .nil)) (.cons (.ret (.pcall 280 (.cons (.comp (.var 2) (.cons (.nm 2) (.cons (.nm 3) .nil)) (.of (.var 0)) (.cst (.bool true)) [2, 3]) .nil))) .nil)))⟩
def is_name : FDef := ⟨1, 1, (.cons (.ret (.and_ (.pcall 295 (.cons (.var 0) .nil)) (.cmp .In (.idx (.var 0) (.cst (.int 0))) (.glb 0 (.str "abcdefghijklmnopqrstuvwxyz"))))) .nil)⟩
def is_one_to_one : FDef := ⟨1, 5, (.cons (.asg (.nm 1) (.dcomp (.var 2) (.cst (.bool true)) (.cons (.nm 2) (.cons (.nm 3) .nil)) (.of (.var 0)) (.cst (.bool true)) [2, 3])) (.cons (.asg (.nm 4) (.dcomp (.var 3) (.cst (.bool true)) (.cons (.nm 2) (.cons (.nm 3) .nil)) (.of (.var 0)) (.cst (.bool true)) [2, 3])) (.cons (.ret (.chain .Eq .Eq (.blt .len (.cons (.var 1) .nil)) (.blt .len (.cons (.var 0) .nil)) (.blt .len (.cons (.var 4) .nil)))) .nil)))⟩
def is_pair : FDef := ⟨1, 1, (.cons (.ret (.and_ (.isi (.var 0) .tup) (.cmp .Eq (.blt .len (.cons (.var 0) .nil)) (.cst (.int 2))))) .nil)⟩
def is_rising : FDef := ⟨1, 2, (.cons (.ret (.blt .all (.cons (.comp (.cmp .Lt (.idx (.var 0) (.bin .Sub (.var 1) (.cst (.int 1)))) (.idx (.var 0) (.var 1))) (.nm 1) (.rng2 (.cst (.int 1)) (.blt .len (.cons (.var 0) .nil))) (.cst (.bool true)) [1]) .nil))) .nil)⟩
def is_rows_of : FDef := ⟨3, 4, (.cons (.if_ (.not_ (.isi (.var 0) .tup)) (.cons (.ret (.cst (.bool false))) .nil) .nil) (.cons (.for_ (.nm 3) (.of (.var 0)) (.cons (.if_ (.or_ (.not_ (.pcall 274 (.cons (.var 3) .nil))) (.or_ (.not_ (.pcall 294 (.cons (.idx (.var 3) (.cst (.int 0))) (.cons (.var 1) .nil)))) (.not_ (.pcall 294 (.cons (.idx (.var 3) (.cst (.int 1))) (.cons (.var 2) .nil)))))) (.cons (.ret (.cst (.bool false))) .nil) .nil) .nil)) (.cons (.ret (.and_ (.pcall 280 (.cons (.var 0) .nil)) (.pcall 273 (.cons (.var 0) .nil)))) .nil)))⟩
def is_rule : FDef := ⟨2, 2, (.cons (.expr (.pcall 190 (.cons (.var 0) .nil))) (.cons (.ret (.pcall 283 (.cons (.var 0) (.cons (.var 1) .nil)))) .nil))⟩
def is_rule_of : FDef := ⟨2, 6, (.cons (.if_ (.or_ (.not_ (.isi (.var 1) .tup)) (.or_ (.not_ (.chain .LtE .LtE (.cst (.int 3)) (.blt .len (.cons (.var 1) .nil)) (.cst (.int 5)))) (.not_ (.isi (.idx (.var 1) (.cst (.int 0))) .str)))) (.cons (.ret (.cst (.bool false))) .nil) .nil) (.cons (.asg (.nm 2) (.blt .dct (.cons (.var 0) .nil))) (.cons (.asg (.nm 3) (.idx (.var 1) (.cst (.int 0)))) (.cons (.if_ (.or_ (.not_ (.isi (.idx (.var 1) (.cst (.int 1))) .str)) (.cmp .NotIn (.idx (.var 1) (.cst (.int 1))) (.var 2))) (.cons (.ret (.cst (.bool false))) .nil) .nil) (.cons (.if_ (.cmp .Eq (.var 3) (.cst (.str "only"))) (.cons (.if_ (.or_ (.cmp .NotEq (.blt .len (.cons (.var 1) .nil)) (.cst (.int 3))) (.not_ (.pcall 296 (.cons (.idx (.var 1) (.cst (.int 2))) (.cons (.cst (.int 0)) (.cons (.cst (.int 8)) .nil)))))) (.cons (.ret (.cst (.bool false))) .nil) .nil) (.cons (.ret (.blt .all (.cons (.comp (.cmp .In (.var 4) (.idx (.var 2) (.idx (.var 1) (.cst (.int 1))))) (.nm 4) (.of (.idx (.var 1) (.cst (.int 2)))) (.cst (.bool true)) [4]) .nil))) .nil)) .nil) (.cons (.asg (.nm 5) (.mth .get2 (.dsp (.cons (.cst (.str "pairs")) (.cons (.cst (.int 2)) (.cons (.cst (.str "either")) (.cons (.cst (.int 3)) .nil))))) (.cons (.var 3) (.cons (.cst (.int 0)) .nil)))) (.cons (.if_ (.or_ (.not_ (.var 5)) (.or_ (.cmp .NotEq (.blt .len (.cons (.var 1) .nil)) (.bin .Add (.var 5) (.cst (.int 2)))) (.not_ (.isi (.idx (.var 1) (.var 5)) .str)))) (.cons (.ret (.cst (.bool false))) .nil) .nil) (.cons (.if_ (.or_ (.cmp .NotIn (.idx (.var 1) (.var 5)) (.var 2)) (.cmp .Eq (.idx (.var 1) (.var 5)) (.idx (.var 1) (.cst (.int 1))))) (.cons (.ret (.cst (.bool false))) .nil) .nil) (.cons (.if_ (.cmp .Eq (.var 3) (.cst (.str "pairs"))) (.cons (.ret (.pcall 281 (.cons (.idx (.var 1) (.cst (.int 3))) (.cons (.idx (.var 2) (.idx (.var 1) (.cst (.int 1)))) (.cons (.idx (.var 2) (.idx (.var 1) (.cst (.int 2)))) .nil))))) .nil) .nil) (.cons (.ret (.and_ (.pcall 294 (.cons (.idx (.var 1) (.cst (.int 2))) (.cons (.idx (.var 2) (.idx (.var 1) (.cst (.int 1)))) .nil))) (.pcall 294 (.cons (.idx (.var 1) (.cst (.int 4))) (.cons (.idx (.var 2) (.idx (.var 1) (.cst (.int 3)))) .nil))))) .nil))))))))))⟩
def is_state : FDef := ⟨2, 2, (.cons (.expr (.pcall 190 (.cons (.var 0) .nil))) (.cons (.ret (.pcall 285 (.cons (.var 0) (.cons (.var 1) .nil)))) .nil))⟩
def is_state_of : FDef := ⟨2, 4, (.cons (.if_ (.or_ (.not_ (.isi (.var 1) .tup)) (.cmp .NotEq (.blt .len (.cons (.var 1) .nil)) (.blt .len (.cons (.var 0) .nil)))) (.cons (.ret (.cst (.bool false))) .nil) .nil) (.cons (.ret (.blt .all (.cons (.comp (.pcall 294 (.cons (.var 2) (.cons (.idx (.var 3) (.cst (.int 1))) .nil))) (.cons (.nm 2) (.cons (.nm 3) .nil)) (.zip2 (.var 1) (.var 0)) (.cst (.bool true)) [2, 3]) .nil))) .nil))⟩
def is_word : FDef := ⟨2, 2, (.cons (.ret (.and_ (.isi (.var 0) .str) (.cmp .In (.var 0) (.var 1)))) .nil)⟩
def is_worth : FDef := ⟨1, 2, (.cons (.ret (.and_ (.isi (.var 0) .str) (.and_ (.chain .LtE .LtE (.cst (.int 1)) (.blt .len (.cons (.var 0) .nil)) (.cst (.int 8))) (.blt .all (.cons (.comp (.cmp .In (.var 1) (.glb 11 (.str "abcdefghijklmnopqrstuvwxyz0123456789"))) (.nm 1) (.of (.var 0)) (.cst (.bool true)) [1]) .nil))))) .nil)⟩
def is_worths : FDef := ⟨3, 4, (.cons (.if_ (.or_ (.not_ (.isi (.var 0) .tup)) (.not_ (.chain .LtE .LtE (.var 1) (.blt .len (.cons (.var 0) .nil)) (.var 2)))) (.cons (.ret (.cst (.bool false))) .nil) .nil) (.cons (.ret (.and_ (.blt .all (.cons (.comp (.pcall 295 (.cons (.var 3) .nil)) (.nm 3) (.of (.var 0)) (.cst (.bool true)) [3]) .nil)) (.pcall 280 (.cons (.var 0) .nil)))) .nil))⟩
def keeps_rule : FDef := ⟨2, 2, (.cons (.if_ (.cmp .Eq (.idx (.var 0) (.cst (.int 0))) (.cst (.str "only"))) (.cons (.ret (.cmp .In (.idx (.var 1) (.idx (.var 0) (.cst (.int 1)))) (.idx (.var 0) (.cst (.int 2))))) .nil) .nil) (.cons (.if_ (.cmp .Eq (.idx (.var 0) (.cst (.int 0))) (.cst (.str "pairs"))) (.cons (.ret (.cmp .In (.tup (.cons (.idx (.var 1) (.idx (.var 0) (.cst (.int 1)))) (.cons (.idx (.var 1) (.idx (.var 0) (.cst (.int 2)))) .nil))) (.idx (.var 0) (.cst (.int 3))))) .nil) .nil) (.cons (.ret (.or_ (.cmp .Eq (.idx (.var 1) (.idx (.var 0) (.cst (.int 1)))) (.idx (.var 0) (.cst (.int 2)))) (.cmp .Eq (.idx (.var 1) (.idx (.var 0) (.cst (.int 3)))) (.idx (.var 0) (.cst (.int 4)))))) .nil)))⟩
def x_law_6 : FDef := ⟨1, 14, (.cons (.asgH 1 (.pcall 31 (.cons (.var 0) (.cons (.cst (.int 260)) .nil)))) (.cons (.asg (.nm 2) (.call 50 (.cons (.var 1) (.cons (.cst (.int 5)) .nil)))) (.cons (.asg (.nm 3) (.call 14 (.cons (.var 1) (.cons (.var 2) (.cons (.cst (.int 8)) (.cons (.cst (.bool true)) .nil)))))) (.cons (.if_ (.or_ (.cmp .IsNot (.pcall 249 (.cons (.var 3) .nil)) (.cst (.bool true))) (.cmp .IsNot (.pcall 249 (.cons (.tup (.cons (.var 2) (.cons (.tup .nil) .nil))) .nil)) (.cst (.bool true)))) (.cons (.ret (.cst (.bool false))) .nil) .nil) (.cons (.for_ (.nm 4) (.of (.idx (.var 3) (.cst (.int 1)))) (.cons (.if_ (.cmp .IsNot (.pcall 282 (.cons (.var 2) (.cons (.var 4) .nil))) (.cst (.bool true))) (.cons (.ret (.cst (.bool false))) .nil) .nil) .nil)) (.cons (.for_ (.nm 5) (.rng1 (.cst (.int 5))) (.cons (.asg (.nm 6) (.call 143 (.cons (.var 1) (.cons (.var 2) .nil)))) (.cons (.asg (.nm 7) (.pcall 154 (.cons (.var 2) (.cons (.var 6) .nil)))) (.cons (.asg (.nm 8) (.blt .tup (.cons (.comp (.var 9) (.nm 9) (.rng1 (.blt .len (.cons (.idx (.var 3) (.cst (.int 1))) .nil))) (.not_ (.pcall 82 (.cons (.idx (.idx (.var 3) (.cst (.int 1))) (.var 9)) (.cons (.var 7) .nil)))) [9]) .nil))) (.cons (.if_ (.cmp .NotEq (.pcall 209 (.cons (.var 3) (.cons (.var 6) .nil))) (.var 8)) (.cons (.ret (.cst (.bool false))) .nil) .nil) .nil))))) (.cons (.asg (.nm 10) (.tup (.cons (.cst (.str "only")) (.cons (.idx (.idx (.var 2) (.cst (.int 0))) (.cst (.int 0))) (.cons (.tup .nil) .nil))))) (.cons (.if_ (.or_ (.cmp .IsNot (.pcall 249 (.cons (.tup (.cons (.var 2) (.cons (.blt .tup (.cons (.comp (.var 10) (.nm 5) (.rng1 (.cst (.int 1000))) (.cst (.bool true)) [5]) .nil)) .nil))) .nil)) (.cst (.bool true))) (.cmp .IsNot (.pcall 282 (.cons (.var 2) (.cons (.var 10) .nil))) (.cst (.bool true)))) (.cons (.ret (.cst (.bool false))) .nil) .nil) (.cons (.asg (.nm 11) (.call 103 (.cons (.var 1) (.cons (.bin .Add (.blt .len (.cons (.idx (.var 3) (.cst (.int 1))) .nil)) (.cst (.int 1))) .nil)))) (.cons (.asgO 12 (.comp (.tup (.cons (.var 2) (.cons (.bin .Add (.bin .Add (.slc false true (.idx (.var 3) (.cst (.int 1))) (.cst .none) (.var 11)) (.tup (.cons (.var 13) .nil))) (.slc true false (.idx (.var 3) (.cst (.int 1))) (.var 11) (.cst .none))) .nil))) (.nm 13) (.of (.pcall 174 (.cons (.var 2) .nil))) (.cst (.bool true)) [13])) (.cons (.asgO 12 (.cat (.var 12) (.lst (.cons (.cst .none) (.cons (.tup .nil) (.cons (.tup (.cons (.var 2) .nil)) (.cons (.tup (.cons (.var 2) (.cons (.blt .lst (.cons (.idx (.var 3) (.cst (.int 1))) .nil)) .nil))) (.cons (.lst (.cons (.var 2) (.cons (.tup .nil) .nil))) (.cons (.tup (.cons (.var 2) (.cons (.cst .none) .nil))) (.cons (.tup (.cons (.tup .nil) (.cons (.tup .nil) .nil))) (.cons (.tup (.cons (.var 2) (.cons (.tup .nil) (.cons (.tup .nil) .nil)))) .nil))))))))))) (.cons (.app 12 (.tup (.cons (.var 2) (.cons (.blt .tup (.cons (.comp (.var 10) (.nm 5) (.rng1 (.cst (.int 1001))) (.cst (.bool true)) [5]) .nil)) .nil)))) (.cons (.for_ (.nm 13) (.of (.pcall 174 (.cons (.var 2) .nil))) (.cons (.if_ (.cmp .IsNot (.pcall 282 (.cons (.var 2) (.cons (.var 13) .nil))) (.cst (.bool false))) (.cons (.ret (.cst (.bool false))) .nil) .nil) .nil)) (.cons (.frz 12) (.cons (.for_ (.nm 13) (.of (.var 12)) (.cons (.if_ (.or_ (.cmp .IsNot (.pcall 249 (.cons (.var 13) .nil)) (.cst (.bool false))) (.cmp .NotEq (.pcall 84 (.cons (.cst (.str "broken")) (.cons (.var 13) (.cons (.cst .none) .nil)))) (.lst (.cons (.cst (.str "book")) .nil)))) (.cons (.ret (.cst (.bool false))) .nil) .nil) .nil)) (.cons (.for_ (.nm 13) (.of (.lst (.cons (.cst .none) (.cons (.slc true false (.call 143 (.cons (.var 1) (.cons (.var 2) .nil))) (.cst (.int 1)) (.cst .none)) (.cons (.bin .Add (.tup (.cons (.cst (.str "?")) .nil)) (.slc true false (.call 143 (.cons (.var 1) (.cons (.var 2) .nil))) (.cst (.int 1)) (.cst .none))) .nil))))) (.cons (.if_ (.cmp .NotEq (.pcall 84 (.cons (.cst (.str "broken")) (.cons (.var 3) (.cons (.var 13) .nil)))) (.lst (.cons (.cst (.str "state")) .nil))) (.cons (.ret (.cst (.bool false))) .nil) .nil) .nil)) (.cons (.ret (.and_ (.cmp .Eq (.pcall 84 (.cons (.cst (.str "rule")) (.cons (.cst .none) (.cons (.var 10) .nil)))) (.lst (.cons (.cst (.str "ground")) .nil))) (.cmp .Eq (.pcall 84 (.cons (.cst (.str "rule")) (.cons (.tup .nil) (.cons (.cst .none) .nil)))) (.lst (.cons (.cst (.str "ground")) .nil))))) .nil)))))))))))))))))⟩
def leaves_of : FDef := ⟨1, 3, (.cons (.ret (.comp (.var 1) (.cons (.nm 1) (.cons (.nm 2) .nil)) (.of (.var 0)) (.cst (.bool true)) [1, 2])) .nil)⟩
def told_of : FDef := ⟨2, 2, (.cons (.ret (.blt .dct (.cons (.lzip (.pcall 315 (.cons (.var 0) .nil)) (.var 1)) .nil))) .nil)⟩
end Mn.Fn
end
section
set_option linter.all false
set_option autoImplicit false
set_option maxRecDepth 100000
/-! Mini, plain: what the evaluator's parts come to. -/
namespace Mn
open PySem

/-! ### the evaluator's rows -/
/-- a loop's turns -/
def forB (C : CallF) (t : Tg) (body : Ss) (xs : List PyData) (env : MEnv) (mh : MH) : SO := forL t (fun env mh => evSs C body env mh) xs env mh
section
variable {C : CallF}
@[simp] theorem evP_var (i : Nat) : evP C (.var i) = tv (fun env mh => match env[i]? with
    | some (some rv) => .ok rv mh
    | _ => .stuck) := rfl
@[simp] theorem evP_cst (d : PyData) : evP C (.cst d) = (fun _ mh => .ok (.dat d) mh, fun _ mh => ofT (truD d) mh) := rfl
@[simp] theorem evP_glb (k : Nat) (d : PyData) : evP C (.glb k d) = tv (fun _ mh => .ok (.dat d) mh) := rfl
@[simp] theorem evP_and_ (a b : E) : evP C (.and_ a b) = (fun env mh => ((evP C a).1 env mh).bind fun r mh => match r with
    | .dat (.bool true) => (evP C b).1 env mh
    | .dat (.bool false) => .ok (.dat (.bool false)) mh
    | _ => .stuck,
    fun env mh => ((evP C a).2 env mh).bind fun r mh => match r with
    | true => (evP C b).2 env mh
    | false => .ok false mh) := rfl
@[simp] theorem evP_or_ (a b : E) : evP C (.or_ a b) = (fun env mh => ((evP C a).1 env mh).bind fun r mh => match r with
    | .dat (.bool false) => (evP C b).1 env mh
    | .dat (.bool true) => .ok (.dat (.bool true)) mh
    | _ => .stuck,
    fun env mh => ((evP C a).2 env mh).bind fun r mh => match r with
    | true => .ok true mh
    | false => (evP C b).2 env mh) := rfl
@[simp] theorem evP_not_ (a : E) : evP C (.not_ a) = (fun env mh => ((evP C a).1 env mh).bind fun x mh => match view mh x with
      | some d => ofB ((truD d).map not) mh
      | none => .stuck,
    fun env mh => ((evP C a).2 env mh).bind fun b mh => .ok (!b) mh) := rfl
@[simp] theorem evP_cmp (op : CmpOp) (a b : E) : evP C (.cmp op a b) = (fun env mh => ((evP C a).1 env mh).bind fun x mh => ((evP C b).1 env mh).bind fun y mh =>
      match view mh x, view mh y with
      | some d, some e => ofB (cmpD op d e) mh
      | _, _ => .stuck,
    fun env mh => ((evP C a).1 env mh).bind fun x mh => ((evP C b).1 env mh).bind fun y mh =>
      match view mh x, view mh y with
      | some d, some e => ofT (cmpD op d e) mh
      | _, _ => .stuck) := rfl
@[simp] theorem evP_bin (op : Operator) (a b : E) : evP C (.bin op a b) = tv (fun env mh => ((evP C a).1 env mh).bind fun x mh => ((evP C b).1 env mh).bind fun y mh =>
      match view mh x, view mh y with
      | some d, some e => ofD (binD op d e) mh
      | _, _ => .stuck) := rfl
@[simp] theorem evP_cat (a b : E) : evP C (.cat a b) = tv (fun env mh => ((evP C a).1 env mh).bind fun x mh => ((evP C b).1 env mh).bind fun y mh =>
      match view mh x, view mh y with
      | some (.list xs), some (.list ys) => if big (xs.length + ys.length) then .ok (.dat (.list (xs ++ ys))) mh else .stuck
      | _, _ => .stuck) := rfl
@[simp] theorem evP_neg (a : E) : evP C (.neg a) = tv (fun env mh => ((evP C a).1 env mh).bind fun x mh => match x with
      | .dat (.int i) => .ok (.dat (.int (-i))) mh
      | _ => .stuck) := rfl
@[simp] theorem evP_ite (c a b : E) : evP C (.ite c a b) = (fun env mh => ((evP C c).2 env mh).bind fun t mh => match t with
      | true => (evP C a).1 env mh
      | false => (evP C b).1 env mh,
    fun env mh => ((evP C c).2 env mh).bind fun t mh => match t with
      | true => (evP C a).2 env mh
      | false => (evP C b).2 env mh) := rfl
@[simp] theorem evP_tup (es : Es) : evP C (.tup es) = tv (fun env mh => (evEs C es env mh).bind fun ds mh => if big ds.length then .ok (.dat (.tuple ds)) mh else .stuck) := rfl
@[simp] theorem evP_lst (es : Es) : evP C (.lst es) = tv (fun env mh => (evEs C es env mh).bind fun ds mh => if big ds.length then .ok (.dat (.list ds)) mh else .stuck) := rfl
@[simp] theorem evP_dsp (es : Es) : evP C (.dsp es) = tv (fun env mh => (evEs C es env mh).bind fun ds mh => ofD (dspD ds) mh) := rfl
@[simp] theorem evP_idx (a b : E) : evP C (.idx a b) = tv (fun env mh => ((evP C a).1 env mh).bind fun x mh => ((evP C b).1 env mh).bind fun y mh =>
      match view mh x, view mh y with
      | some d, some e => ofD (idxD d e) mh
      | _, _ => .stuck) := rfl
@[simp] theorem evP_slc (lo hi : Bool) (a l h : E) : evP C (.slc lo hi a l h) = tv (fun env mh => ((evP C a).1 env mh).bind fun x mh => (partO lo (evP C l).1 env mh).bind fun p mh => (partO hi (evP C h).1 env mh).bind fun q mh =>
      match view mh x with
      | some d => ofD (sliD d p q) mh
      | none => .stuck) := rfl
@[simp] theorem evP_isi (a : E) (t : Ty) : evP C (.isi a t) = tv (fun env mh => ((evP C a).1 env mh).bind fun x mh => match view mh x with
      | some d => .ok (.dat (.bool (tyD t d))) mh
      | none => .stuck) := rfl
@[simp] theorem evP_isx (i c : Nat) : evP C (.isx i c) = tv (fun env mh => match env[i]? with
    | some (some (.xcp x none)) => ofB (C.sub x c) mh
    | _ => .stuck) := rfl
@[simp] theorem evP_xat (i c : Nat) : evP C (.xat i c) = tv (fun env mh => match env[i]? with
    | some (some (.xcp x (some d))) => if x = c then .ok (.dat d) mh else .stuck
    | _ => .stuck) := rfl
@[simp] theorem evP_blt (b : Blt) (es : Es) : evP C (.blt b es) = tv (fun env mh => (evVs C es env mh).bind fun rs mh => match views mh rs with
      | some ds => ofD (bltD b ds) mh
      | none => .stuck) := rfl
@[simp] theorem evP_mth (m : Mth) (o : E) (es : Es) : evP C (.mth m o es) = tv (fun env mh => ((evP C o).1 env mh).bind fun x mh => if mthTy m (view mh x) then (evEs C es env mh).bind fun ds mh => (match view mh x with
      | some d => ofD (mthD m d ds) mh
      | none => .stuck) else .stuck) := rfl
@[simp] theorem evP_popA (o : E) (es : Es) : evP C (.popA o es) = tv (fun env mh => ((evP C o).1 env mh).bind fun x mh => if isLstC x mh then (evEs C es env mh).bind fun ds mh => popC x ds mh else .stuck) := rfl
@[simp] theorem evP_call (f : Nat) (es : Es) : evP C (.call f es) = tv (fun env mh => (evVs C es env mh).bind fun rs mh => if rs.all RV.passes then C.call f rs mh else .stuck) := rfl
@[simp] theorem evP_pcall (f : Nat) (es : Es) : evP C (.pcall f es) = tv (fun env mh => (evVs C es env mh).bind fun rs mh => match views mh rs with
      | some ds => pureCall (rs.all RV.isDat) (C.call f (ds.map .dat) []) mh
      | none => .stuck) := rfl
@[simp] theorem evP_chain (op op' : CmpOp) (a b c : E) : evP C (.chain op op' a b c) = (fun env mh => ((evP C a).1 env mh).bind fun x mh => ((evP C b).1 env mh).bind fun y mh =>
      match view mh x, view mh y with
      | some d, some e => (match cmpD op d e with
        | some true => ((evP C c).1 env mh).bind fun z mh => (match view mh y, view mh z with
          | some e, some f => ofB (cmpD op' e f) mh
          | _, _ => .stuck)
        | some false => .ok (.dat (.bool false)) mh
        | none => .stuck)
      | _, _ => .stuck,
    fun env mh => ((evP C a).1 env mh).bind fun x mh => ((evP C b).1 env mh).bind fun y mh =>
      match view mh x, view mh y with
      | some d, some e => (match cmpD op d e with
        | some true => ((evP C c).1 env mh).bind fun z mh => (match view mh y, view mh z with
          | some e, some f => ofT (cmpD op' e f) mh
          | _, _ => .stuck)
        | some false => .ok false mh
        | none => .stuck)
      | _, _ => .stuck) := rfl
@[simp] theorem evP_lzip (a b : E) : evP C (.lzip a b) = tv (fun env mh => ((evP C a).1 env mh).bind fun x mh => ((evP C b).1 env mh).bind fun y mh => match x, y with
      | .dat d, .dat e => (match seqD d, seqD e with
        | some xs, some ys => .ok (.dat (.list (zipD2 xs ys))) mh
        | _, _ => .stuck)
      | _, _ => .stuck) := rfl
@[simp] theorem evP_rev (a : E) : evP C (.rev a) = tv (fun env mh => ((evP C a).1 env mh).bind fun x mh => match view mh x with
      | some d => ofD (revD d) mh
      | none => .stuck) := rfl
@[simp] theorem evEs_nil (env : MEnv) (mh : MH) : evEs C .nil env mh = .ok [] mh := rfl
@[simp] theorem evEs_cons (e : E) (es : Es) (env : MEnv) (mh : MH) : evEs C (.cons e es) env mh = ((evP C e).1 env mh).bind fun x mh => match x with
      | .dat d => (evEs C es env mh).bind fun ds mh => .ok (d :: ds) mh
      | _ => .stuck := rfl
@[simp] theorem evVs_nil (env : MEnv) (mh : MH) : evVs C .nil env mh = .ok [] mh := rfl
@[simp] theorem evVs_cons (e : E) (es : Es) (env : MEnv) (mh : MH) : evVs C (.cons e es) env mh = ((evP C e).1 env mh).bind fun x mh => (evVs C es env mh).bind fun xs mh => .ok (x :: xs) mh := rfl
@[simp] theorem tv_1 (v : MEnv → MH → Out RV) : (tv v).1 = v := rfl
@[simp] theorem tv_2 (v : MEnv → MH → Out RV) (env : MEnv) (mh : MH) : (tv v).2 env mh = (v env mh).bind fun x mh => match view mh x with
      | some d => ofT (truD d) mh
      | none => .stuck := rfl
@[simp] theorem evE_1 (e : E) (env : MEnv) (mh : MH) : evE C e env mh = (evP C e).1 env mh := rfl
@[simp] theorem evT_1 (e : E) (env : MEnv) (mh : MH) : evT C e env mh = (evP C e).2 env mh := rfl
@[simp] theorem view_dat (mh : MH) (d : PyData) : view mh (.dat d) = some d := rfl
@[simp] theorem view_olst (mh : MH) (d : List PyData) : view mh (.olst d) = some (.list d) := rfl
@[simp] theorem view_odct (mh : MH) (d : List (PyData × PyData)) : view mh (.odct d) = some (.dict d) := rfl
@[simp] theorem views_nil (mh : MH) : views mh [] = some [] := rfl
@[simp] theorem views_dat (mh : MH) (d : PyData) (rs : List RV) : views mh (.dat d :: rs) = (views mh rs).map (d :: ·) := by
  show (match view mh (.dat d), views mh rs with | some d, some ds => some (d :: ds) | _, _ => none) = _
  cases views mh rs <;> rfl
@[simp] theorem views_olst (mh : MH) (d : List PyData) (rs : List RV) : views mh (.olst d :: rs) = (views mh rs).map (.list d :: ·) := by
  show (match view mh (.olst d), views mh rs with | some d, some ds => some (d :: ds) | _, _ => none) = _
  cases views mh rs <;> rfl
@[simp] theorem ofD_some (d : PyData) (mh : MH) : ofD (some d) mh = .ok (.dat d) mh := rfl
@[simp] theorem ofB_some (d : Bool) (mh : MH) : ofB (some d) mh = .ok (.dat (.bool d)) mh := rfl
@[simp] theorem ofT_some (d : Bool) (mh : MH) : ofT (some d) mh = .ok d mh := rfl
@[simp] theorem truD_bool (b : Bool) : truD (.bool b) = some b := rfl
@[simp] theorem truD_int (i : Int) : truD (.int i) = some (i != 0) := rfl
@[simp] theorem truD_list (xs : List PyData) : truD (.list xs) = some !xs.isEmpty := rfl
@[simp] theorem truD_tuple (xs : List PyData) : truD (.tuple xs) = some !xs.isEmpty := rfl
@[simp] theorem evSs_nil (env : MEnv) (mh : MH) : evSs C .nil env mh = .next env mh := (rfl)
@[simp] theorem evSs_cons (s : S) (r : Ss) (env : MEnv) (mh : MH) : evSs C (.cons s r) env mh = (evS C s env mh).then (fun env mh => evSs C r env mh) := (rfl)
@[simp] theorem evS_if (c : E) (a b : Ss) (env : MEnv) (mh : MH) : evS C (.if_ c a b) env mh = SO.of env (fun t mh => match t with
      | true => evSs C a env mh
      | false => evSs C b env mh) (evT C c env mh) := (rfl)
@[simp] theorem evS_asg (t : Tg) (e : E) (env : MEnv) (mh : MH) : evS C (.asg t e) env mh = SO.of env (fun r mh => match r, t with
      | .dat d, t => (match bindT t d env with
        | some env' => .next env' mh
        | none => .stuck)
      | .ref n, .nm i => setN i (.ref n) env mh
      | _, _ => .stuck) (evE C e env mh) := (rfl)
def retK (r : RV) (mh : MH) : SO := match r with
      | .dat d => .ret (.dat d) mh
      | .ref n => .ret (.ref n) mh
      | _ => .stuck
@[simp] theorem retK_dat (d : PyData) (mh : MH) : retK (.dat d) mh = .ret (.dat d) mh := (rfl)
@[simp] theorem retK_ref (d : Nat) (mh : MH) : retK (.ref d) mh = .ret (.ref d) mh := (rfl)
@[simp] theorem evS_ret_var (i : Nat) (env : MEnv) (mh : MH) : evS C (.ret (.var i)) env mh = (match env[i]? with
      | some (some r) => (match frzR r with
        | some r => .ret r mh
        | none => .stuck)
      | _ => .stuck) := (rfl)
@[simp] theorem evS_ret_cst (d : PyData) (env : MEnv) (mh : MH) : evS C (.ret (.cst d)) env mh = SO.of env retK (evE C (.cst d) env mh) := (rfl)
@[simp] theorem evS_ret_glb (k : Nat) (d : PyData) (env : MEnv) (mh : MH) : evS C (.ret (.glb k d)) env mh = SO.of env retK (evE C (.glb k d) env mh) := (rfl)
@[simp] theorem evS_ret_and_ (a b : E) (env : MEnv) (mh : MH) : evS C (.ret (.and_ a b)) env mh = SO.of env retK (evE C (.and_ a b) env mh) := (rfl)
@[simp] theorem evS_ret_or_ (a b : E) (env : MEnv) (mh : MH) : evS C (.ret (.or_ a b)) env mh = SO.of env retK (evE C (.or_ a b) env mh) := (rfl)
@[simp] theorem evS_ret_not_ (a : E) (env : MEnv) (mh : MH) : evS C (.ret (.not_ a)) env mh = SO.of env retK (evE C (.not_ a) env mh) := (rfl)
@[simp] theorem evS_ret_cmp (o : CmpOp) (a b : E) (env : MEnv) (mh : MH) : evS C (.ret (.cmp o a b)) env mh = SO.of env retK (evE C (.cmp o a b) env mh) := (rfl)
@[simp] theorem evS_ret_chain (o p : CmpOp) (a b c : E) (env : MEnv) (mh : MH) : evS C (.ret (.chain o p a b c)) env mh = SO.of env retK (evE C (.chain o p a b c) env mh) := (rfl)
@[simp] theorem evS_ret_bin (o : Operator) (a b : E) (env : MEnv) (mh : MH) : evS C (.ret (.bin o a b)) env mh = SO.of env retK (evE C (.bin o a b) env mh) := (rfl)
@[simp] theorem evS_ret_cat (a b : E) (env : MEnv) (mh : MH) : evS C (.ret (.cat a b)) env mh = SO.of env retK (evE C (.cat a b) env mh) := (rfl)
@[simp] theorem evS_ret_neg (a : E) (env : MEnv) (mh : MH) : evS C (.ret (.neg a)) env mh = SO.of env retK (evE C (.neg a) env mh) := (rfl)
@[simp] theorem evS_ret_ite (a b c : E) (env : MEnv) (mh : MH) : evS C (.ret (.ite a b c)) env mh = SO.of env retK (evE C (.ite a b c) env mh) := (rfl)
@[simp] theorem evS_ret_tup (a : Es) (env : MEnv) (mh : MH) : evS C (.ret (.tup a)) env mh = SO.of env retK (evE C (.tup a) env mh) := (rfl)
@[simp] theorem evS_ret_lst (a : Es) (env : MEnv) (mh : MH) : evS C (.ret (.lst a)) env mh = SO.of env retK (evE C (.lst a) env mh) := (rfl)
@[simp] theorem evS_ret_dsp (a : Es) (env : MEnv) (mh : MH) : evS C (.ret (.dsp a)) env mh = SO.of env retK (evE C (.dsp a) env mh) := (rfl)
@[simp] theorem evS_ret_idx (a b : E) (env : MEnv) (mh : MH) : evS C (.ret (.idx a b)) env mh = SO.of env retK (evE C (.idx a b) env mh) := (rfl)
@[simp] theorem evS_ret_slc (a b : Bool) (c d e : E) (env : MEnv) (mh : MH) : evS C (.ret (.slc a b c d e)) env mh = SO.of env retK (evE C (.slc a b c d e) env mh) := (rfl)
@[simp] theorem evS_ret_isi (a : E) (b : Ty) (env : MEnv) (mh : MH) : evS C (.ret (.isi a b)) env mh = SO.of env retK (evE C (.isi a b) env mh) := (rfl)
@[simp] theorem evS_ret_isx (a b : Nat) (env : MEnv) (mh : MH) : evS C (.ret (.isx a b)) env mh = SO.of env retK (evE C (.isx a b) env mh) := (rfl)
@[simp] theorem evS_ret_xat (a b : Nat) (env : MEnv) (mh : MH) : evS C (.ret (.xat a b)) env mh = SO.of env retK (evE C (.xat a b) env mh) := (rfl)
@[simp] theorem evS_ret_blt (a : Blt) (b : Es) (env : MEnv) (mh : MH) : evS C (.ret (.blt a b)) env mh = SO.of env retK (evE C (.blt a b) env mh) := (rfl)
@[simp] theorem evS_ret_mth (a : Mth) (b : E) (c : Es) (env : MEnv) (mh : MH) : evS C (.ret (.mth a b c)) env mh = SO.of env retK (evE C (.mth a b c) env mh) := (rfl)
@[simp] theorem evS_ret_popA (a : E) (b : Es) (env : MEnv) (mh : MH) : evS C (.ret (.popA a b)) env mh = SO.of env retK (evE C (.popA a b) env mh) := (rfl)
@[simp] theorem evS_ret_call (a : Nat) (b : Es) (env : MEnv) (mh : MH) : evS C (.ret (.call a b)) env mh = SO.of env retK (evE C (.call a b) env mh) := (rfl)
@[simp] theorem evS_ret_pcall (a : Nat) (b : Es) (env : MEnv) (mh : MH) : evS C (.ret (.pcall a b)) env mh = SO.of env retK (evE C (.pcall a b) env mh) := (rfl)
@[simp] theorem evS_ret_comp (a : E) (b : Tg) (c : It) (d : E) (e : List Nat) (env : MEnv) (mh : MH) : evS C (.ret (.comp a b c d e)) env mh = SO.of env retK (evE C (.comp a b c d e) env mh) := (rfl)
@[simp] theorem evS_ret_lzip (a b : E) (env : MEnv) (mh : MH) : evS C (.ret (.lzip a b)) env mh = SO.of env retK (evE C (.lzip a b) env mh) := (rfl)
@[simp] theorem evS_ret_rev (a : E) (env : MEnv) (mh : MH) : evS C (.ret (.rev a)) env mh = SO.of env retK (evE C (.rev a) env mh) := (rfl)
@[simp] theorem evS_ret_dcomp (k v : E) (b : Tg) (c : It) (d : E) (e : List Nat) (env : MEnv) (mh : MH) : evS C (.ret (.dcomp k v b c d e)) env mh = SO.of env retK (evE C (.dcomp k v b c d e) env mh) := (rfl)
@[simp] theorem evS_retN (env : MEnv) (mh : MH) : evS C .retN env mh = .ret (.dat .none) mh := (rfl)
@[simp] theorem evS_expr (e : E) (env : MEnv) (mh : MH) : evS C (.expr e) env mh = SO.of env (fun _ mh => .next env mh) (evE C e env mh) := (rfl)
@[simp] theorem evS_asgO (i : Nat) (e : E) (env : MEnv) (mh : MH) : evS C (.asgO i e) env mh = SO.of env (fun r mh => match freshV e r with
      | some r => setN i r env mh
      | none => .stuck) (evE C e env mh) := (rfl)
@[simp] theorem evS_asgH (i : Nat) (e : E) (env : MEnv) (mh : MH) : evS C (.asgH i e) env mh = SO.of env (fun r mh => match freshV e r with
      | some r => setN i (.ref mh.length) env (mh ++ [toCell r])
      | none => .stuck) (evE C e env mh) := (rfl)
@[simp] theorem evS_app (i : Nat) (e : E) (env : MEnv) (mh : MH) : evS C (.app i e) env mh = if lstAt env mh i then SO.of env (fun r mh => match r with
      | .dat d => upR i (appD d) env mh
      | _ => .stuck) (evE C e env mh) else .stuck := (rfl)
@[simp] theorem evS_rem (i : Nat) (e : E) (env : MEnv) (mh : MH) : evS C (.rem i e) env mh = if lstAt env mh i then SO.of env (fun r mh => match r with
      | .dat d => upR i (remD d) env mh
      | _ => .stuck) (evE C e env mh) else .stuck := (rfl)
@[simp] theorem evS_setI (i : Nat) (k v : E) (env : MEnv) (mh : MH) : evS C (.setI i k v) env mh = if hasAt env i then SO.of env (fun r mh => SO.of env (fun q mh => match r, q with
      | .dat d, .dat x => upR i (fun c => putC c x d) env mh
      | _, _ => .stuck) (evE C k env mh)) (evE C v env mh) else .stuck := (rfl)
@[simp] theorem evS_for (t : Tg) (it : It) (body : Ss) (env : MEnv) (mh : MH) : evS C (.for_ t it body) env mh = SO.of env (fun xs mh => forB C t body xs env mh) (evItF C it env mh) := (rfl)
theorem then_congr {k : MEnv → MH → SO} {o o' : SO} (h : o = o') : SO.then k o = SO.then k o' := by rw [h]
theorem SOof_congr {α : Type} {env : MEnv} {k : α → MH → SO} {o o' : Out α} (h : o = o') : SO.of env k o = SO.of env k o' := by rw [h]
theorem bind_congr {α β : Type} {k : α → MH → Out β} {o o' : Out α} (h : o = o') : Out.bind o k = Out.bind o' k := by rw [h]

@[simp] theorem evS_brk (env : MEnv) (mh : MH) : evS C .brk env mh = .brk env mh := (rfl)
@[simp] theorem evS_cont (env : MEnv) (mh : MH) : evS C .cont env mh = .cont env mh := (rfl)
@[simp] theorem evS_pass (env : MEnv) (mh : MH) : evS C .pass env mh = .next env mh := (rfl)
@[simp] theorem evS_raise (c : Nat) (es : Es) (env : MEnv) (mh : MH) : evS C (.raise c es) env mh = SO.of env (fun ds mh => match ds with
      | [] => .exc ⟨c, none⟩ env mh
      | [d] => .exc ⟨c, some d⟩ env mh
      | _ => .stuck) (evEs C es env mh) := (rfl)
@[simp] theorem SOof_ok {α : Type} (env : MEnv) (k : α → MH → SO) (a : α) (mh : MH) : SO.of env k (.ok a mh) = k a mh := rfl
@[simp] theorem SOof_exc {α : Type} (env : MEnv) (k : α → MH → SO) (x : Exn) (mh : MH) : SO.of env k (.exc x mh) = .exc x env mh := rfl
@[simp] theorem then_next (k : MEnv → MH → SO) (env : MEnv) (mh : MH) : SO.then k (.next env mh) = k env mh := rfl
@[simp] theorem then_ret (k : MEnv → MH → SO) (r : RV) (mh : MH) : SO.then k (.ret r mh) = .ret r mh := rfl
@[simp] theorem then_exc (k : MEnv → MH → SO) (x : Exn) (env : MEnv) (mh : MH) : SO.then k (.exc x env mh) = .exc x env mh := rfl
@[simp] theorem bodyEnd_next (env : MEnv) (mh : MH) : bodyEnd (.next env mh) = .ok (.dat .none) mh := rfl
@[simp] theorem bodyEnd_ret (r : RV) (mh : MH) : bodyEnd (.ret r mh) = .ok r mh := rfl
@[simp] theorem bodyEnd_exc (x : Exn) (env : MEnv) (mh : MH) : bodyEnd (.exc x env mh) = .exc x mh := rfl
@[simp] theorem pure_dat (d : PyData) (mh0 mh : MH) : pureCall true (.ok (.dat d) mh0) mh = .ok (.dat d) mh := rfl
@[simp] theorem pure_olst (d : List PyData) (mh0 mh : MH) : pureCall true (.ok (.olst d) mh0) mh = .ok (.olst d) mh := rfl
@[simp] theorem pure_exc (x : Exn) (mh0 mh : MH) : pureCall true (.exc x mh0) mh = .exc x mh := rfl
end

/-! ### compares -/
theorem depOk_int (i : Int) : depOk (.int i) = true := by simp [depOk, PyData.plain, PyData.depth]
theorem depOk_str (i : Str) : depOk (.str i) = true := by simp [depOk, PyData.plain, PyData.depth]
theorem ltD_int (i j : Int) : ltD (.int i) (.int j) = some (decide (i < j)) := by
  unfold ltD
  rw [depOk_int, depOk_int]
  simp [PySem.W.alike, nn, PySem.W.dataLt_int]
theorem ltD_str (i j : Str) : ltD (.str i) (.str j) = some (decide (i.cps.toList < j.cps.toList)) := by
  unfold ltD
  rw [depOk_str, depOk_str]
  simp [PySem.W.alike, nn, PySem.W.dataLt_str]
theorem cmp_lt_int (i j : Int) : cmpD .Lt (.int i) (.int j) = some (decide (i < j)) := ltD_int i j
theorem cmp_gt_int (i j : Int) : cmpD .Gt (.int i) (.int j) = some (decide (j < i)) := ltD_int j i
theorem cmp_le_int (i j : Int) : cmpD .LtE (.int i) (.int j) = some (decide (i ≤ j)) := by
  show (ltD (.int j) (.int i)).map not = _
  rw [ltD_int]
  show some (!decide (j < i)) = _
  rw [← decide_not]; simp only [Int.not_lt]
theorem cmp_ge_int (i j : Int) : cmpD .GtE (.int i) (.int j) = some (decide (j ≤ i)) := by
  show (ltD (.int i) (.int j)).map not = _
  rw [ltD_int]
  show some (!decide (i < j)) = _
  rw [← decide_not]; simp only [Int.not_lt]
theorem cmp_lt_str (i j : Str) : cmpD .Lt (.str i) (.str j) = some (decide (i.cps.toList < j.cps.toList)) := ltD_str i j
theorem eqD_int (i j : Int) : eqD (.int i) (.int j) = some (decide (i = j)) := by
  unfold eqD
  rw [depOk_int, depOk_int]
  show some (PyData.eqv (.int i) (.int j)) = _
  rw [PyData.eqv]; rfl
theorem cmp_eq_int (i j : Int) : cmpD .Eq (.int i) (.int j) = some (decide (i = j)) := eqD_int i j
theorem cmp_ne_int (i j : Int) : cmpD .NotEq (.int i) (.int j) = some (!decide (i = j)) := by
  show (eqD (.int i) (.int j)).map not = _
  rw [eqD_int]; rfl

/-! ### comprehensions -/
theorem compL_pure {turn : PyData → MH → Out (Option PyData)} {f : PyData → Option PyData} {mh : MH} : ∀ (xs : List PyData) (acc : List PyData), (∀ x ∈ xs, turn x mh = .ok (f x) mh) → compL turn xs mh acc = .ok (acc ++ xs.filterMap f) mh
  | [], acc, _ => by simp [compL]
  | x :: xs, acc, h => by
    unfold compL
    rw [h x List.mem_cons_self]
    show (match f x with
      | some d => compL turn xs mh (acc ++ [d])
      | none => compL turn xs mh acc) = _
    have ih := fun acc => compL_pure (f := f) xs acc fun y hy => h y (List.mem_cons_of_mem _ hy)
    cases e : f x with
    | none => simp [ih, List.filterMap_cons, e]
    | some d => simp [ih, List.filterMap_cons, e]
theorem ev_comp {C : CallF} {elt c : E} {tg : Tg} {it : It} {own : List Nat} {env : MEnv} {mh mh1 : MH} {xs : List PyData} {f : PyData → Option PyData} (hi : evIt C it env mh = .ok xs mh1) (hb : big xs.length = true) (h : ∀ x ∈ xs, cmpTurn C elt tg c own env x mh1 = .ok (f x) mh1) :
    (evP C (.comp elt tg it c own)).1 env mh = .ok (.dat (.list (xs.filterMap f))) mh1 := by
  show ((evIt C it env mh).bind fun xs mh => if big xs.length then noExc ((compL (cmpTurn C elt tg c own env) xs mh []).bind fun ds mh => .ok (RV.dat (.list ds)) mh) else .stuck) = _
  rw [hi]
  show (if big xs.length then noExc ((compL (cmpTurn C elt tg c own env) xs mh1 []).bind fun ds mh => .ok (RV.dat (.list ds)) mh) else .stuck) = _
  rw [if_pos hb, compL_pure xs [] h]
  rfl
theorem ev_map {C : CallF} {elt c : E} {tg : Tg} {it : It} {own : List Nat} {env : MEnv} {mh mh1 : MH} {xs : List PyData} {f : PyData → PyData} (hi : evIt C it env mh = .ok xs mh1) (hb : big xs.length = true) (h : ∀ x ∈ xs, cmpTurn C elt tg c own env x mh1 = .ok (some (f x)) mh1) :
    (evP C (.comp elt tg it c own)).1 env mh = .ok (.dat (.list (xs.map f))) mh1 := by
  rw [ev_comp (f := fun x => some (f x)) hi hb h, List.filterMap_eq_map']
/-- pairs put one behind the other -/
def putL : List (PyData × PyData) → List (PyData × PyData) → List (PyData × PyData)
  | acc, [] => acc
  | acc, p :: ps => putL (dput acc p.1 p.2) ps
theorem dcmpL_map {turn : PyData → MH → Out (Option (PyData × PyData))} {mh : MH} {f : PyData → PyData × PyData} : ∀ (xs : List PyData) (acc : List (PyData × PyData)), (∀ x ∈ xs, turn x mh = .ok (some (f x)) mh ∧ isKey1 (f x).1 = true) → dcmpL turn xs mh acc = .ok (putL acc (xs.map f)) mh
  | [], acc, _ => rfl
  | x :: xs, acc, h => by
    obtain ⟨h1, h2⟩ := h x List.mem_cons_self
    unfold dcmpL
    rw [h1]
    show (if isKey1 (f x).1 then dcmpL turn xs mh (dput acc (f x).1 (f x).2) else .stuck) = _
    rw [if_pos h2, dcmpL_map xs _ fun y hy => h y (List.mem_cons_of_mem _ hy)]
    rfl
theorem ev_dmap {C : CallF} {k v c : E} {tg : Tg} {it : It} {own : List Nat} {env : MEnv} {mh mh1 : MH} {xs : List PyData} {f : PyData → PyData × PyData} (hi : evIt C it env mh = .ok xs mh1) (hb : big xs.length = true) (h : ∀ x ∈ xs, dcmpTurn C k v tg c own env x mh1 = .ok (some (f x)) mh1 ∧ isKey1 (f x).1 = true) :
    (evP C (.dcomp k v tg it c own)).1 env mh = .ok (.dat (.dict (putL [] (xs.map f)))) mh1 := by
  show ((evIt C it env mh).bind fun xs mh => if big xs.length then noExc ((dcmpL (dcmpTurn C k v tg c own env) xs mh []).bind fun kvs mh => .ok (RV.dat (.dict kvs)) mh) else .stuck) = _
  rw [hi]
  show (if big xs.length then noExc ((dcmpL (dcmpTurn C k v tg c own env) xs mh1 []).bind fun kvs mh => .ok (RV.dat (.dict kvs)) mh) else .stuck) = _
  rw [if_pos hb, dcmpL_map xs [] h]
  rfl
/-- all of a list of truths -/
theorem bools_map {α : Type} (p : α → Bool) : ∀ xs : List α, bools (xs.map fun x => .bool (p x)) = some (xs.map p)
  | [] => rfl
  | x :: xs => by
    show (bools (xs.map fun x => PyData.bool (p x))).map (fun l => p x :: l) = _
    rw [bools_map p xs]; rfl
theorem all_map {α : Type} (p : α → Bool) (xs : List α) : allD (.list (xs.map fun x => .bool (p x))) = some (.bool (xs.all p)) := by
  show (bools (xs.map fun x => PyData.bool (p x))).map (fun l => PyData.bool (l.all id)) = _
  rw [bools_map]; simp [List.all_map]
theorem any_map {α : Type} (p : α → Bool) (xs : List α) : anyD (.list (xs.map fun x => .bool (p x))) = some (.bool (xs.any p)) := by
  show (bools (xs.map fun x => PyData.bool (p x))).map (fun l => PyData.bool (l.any id)) = _
  rw [bools_map]; simp [List.any_map]
/-! ### loops that go on or answer -/
theorem forL_until {t : Tg} {body : MEnv → MH → SO} {I : MEnv → Prop} {P : PyData → Bool} {r : RV} {mh : MH} : ∀ (xs : List PyData) (env : MEnv), I env →
    (∀ x ∈ xs, ∀ env, I env → ∃ env', bindT t x env = some env' ∧ (P x = true → ∃ env2, (body env' mh = .next env2 mh ∨ body env' mh = .cont env2 mh) ∧ I env2) ∧ (P x = false → body env' mh = .ret r mh)) →
    (xs.all P = true → ∃ env', forL t body xs env mh = .next env' mh ∧ I env') ∧ (xs.all P = false → forL t body xs env mh = .ret r mh)
  | [], env, hI, _ => ⟨fun _ => ⟨env, rfl, hI⟩, fun h => by cases h⟩
  | x :: xs, env, hI, h => by
    obtain ⟨env', hb, h1, h2⟩ := h x List.mem_cons_self env hI
    have step : forL t body (x :: xs) env mh = (body env' mh).turn (forL t body xs) := by
      show (match bindT t x env with
        | some env' => (body env' mh).turn (forL t body xs)
        | none => .stuck) = _
      rw [hb]
    rw [step, List.all_cons]
    cases hp : P x with
    | false => rw [h2 hp]; exact ⟨fun z => by simp at z, fun _ => rfl⟩
    | true =>
      obtain ⟨env2, e, hI2⟩ := h1 hp
      have ih := forL_until xs env2 hI2 fun y hy => h y (List.mem_cons_of_mem _ hy)
      have e2 : (body env' mh).turn (forL t body xs) = forL t body xs env2 mh := by rcases e with e | e <;> rw [e] <;> rfl
      rw [e2, Bool.true_and]
      exact ih
theorem forB_until {C : CallF} {t : Tg} {body : Ss} {I : MEnv → Prop} {P : PyData → Bool} {r : RV} {mh : MH} (xs : List PyData) (env : MEnv) (hI : I env)
    (h : ∀ x ∈ xs, ∀ env, I env → ∃ env', bindT t x env = some env' ∧ (P x = true → ∃ env2, (evSs C body env' mh = .next env2 mh ∨ evSs C body env' mh = .cont env2 mh) ∧ I env2) ∧ (P x = false → evSs C body env' mh = .ret r mh)) :
    (xs.all P = true → ∃ env', forB C t body xs env mh = .next env' mh ∧ I env') ∧ (xs.all P = false → forB C t body xs env mh = .ret r mh) :=
  forL_until (body := fun env mh => evSs C body env mh) xs env hI h
end Mn
end
section
set_option linter.all false
set_option autoImplicit false
set_option maxRecDepth 100000
namespace Mn
open PySem
/-- the calls, k deep -/
def CF (P : Nat → Option FDef) (sub : Nat → Nat → Option Bool) (k : Nat) : CallF := ⟨callN P sub k, sub⟩
theorem cf_succ {P : Nat → Option FDef} {sub : Nat → Nat → Option Bool} {f : Nat} {d : FDef} (h : P f = some d) (k : Nat) (rs : List RV) (mh : MH) : (CF P sub (k + 1)).call f rs mh = runF (CF P sub k) d rs mh := by
  show (match P f with
    | some d => runF ⟨callN P sub k, sub⟩ d rs mh
    | none => .stuck) = _
  rw [h]; rfl
/-- texts and rows that the model's bounds let -/
def okD : PyData → Bool
  | .str s => big s.length
  | .tuple xs => big xs.length && okA xs
  | .list xs => big xs.length && okA xs
  | _ => true
where okA : List PyData → Bool
  | [] => true
  | x :: xs => okD x && okA xs
theorem okA_mem : ∀ {xs : List PyData} {x : PyData}, okD.okA xs = true → x ∈ xs → okD x = true
  | y :: ys, x, h, hx => by
    have h' : (okD y && okD.okA ys) = true := h
    rw [Bool.and_eq_true] at h'
    rcases List.mem_cons.mp hx with e | e
    · rw [e]; exact h'.1
    · exact okA_mem h'.2 e
def isPair : PyData → Bool
  | .tuple [_, _] => true
  | _ => false
theorem isPair_tup (xs : List PyData) : isPair (.tuple xs) = decide ((xs.length : Int) = 2) := by
  match xs with
  | [] => rfl
  | [_] => rfl
  | [_, _] => rfl
  | _ :: _ :: _ :: _ => simp [isPair]; omega
theorem r_is_pair (C : CallF) (d : PyData) (mh : MH) : runF C Fn.is_pair [.dat d] mh = .ok (.dat (.bool (isPair d))) mh := by
  cases d with
  | tuple xs =>
    rw [isPair_tup]
    have h : cmpD .Eq (.int (xs.length : Int)) (.int 2) = some (decide ((xs.length : Int) = 2)) := cmp_eq_int _ _
    simp [runF, Fn.is_pair, notVar, bltD, un, lenD, tyD, RV.passes, h]
  | _ => rfl
def signs : Str := "abcdefghijklmnopqrstuvwxyz0123456789"
def letters : Str := "abcdefghijklmnopqrstuvwxyz"
def allSigns (s : Str) : Bool := s.cps.toList.all fun c => decide (c ∈ signs.cps.toList)
def isWorthS (s : Str) : Bool := decide (1 ≤ s.length) && (decide (s.length ≤ 8) && allSigns s)
def isWorth : PyData → Bool
  | .str s => isWorthS s
  | _ => false
def signRow (s : Str) : PyData := .list (s.cps.toList.map fun c => PyData.bool (decide (c ∈ signs.cps.toList)))
theorem allD_signRow (s : Str) : allD (signRow s) = some (.bool (allSigns s)) := all_map _ _
theorem itC_signs (C : CallF) (s : Str) (o : Option RV) (mh : MH) (hb : big s.length = true) : (evP C (.comp (.cmp .In (.var 1) (.glb 11 (.str "abcdefghijklmnopqrstuvwxyz0123456789"))) (.nm 1) (.of (.var 0)) (.cst (.bool true)) [1])).1 [some (.dat (.str s)), o] mh =
    .ok (.dat (signRow s)) mh := by
  have h := ev_map (C := C) (elt := .cmp .In (.var 1) (.glb 11 (.str "abcdefghijklmnopqrstuvwxyz0123456789"))) (c := .cst (.bool true)) (tg := .nm 1) (own := [1]) (it := .of (.var 0)) (env := [some (.dat (.str s)), o]) (mh := mh) (mh1 := mh) (xs := s.cps.toList.map fun c => PyData.str ⟨#[c]⟩) (f := fun d => .bool (match d with | .str ⟨⟨[c]⟩⟩ => decide (c ∈ signs.cps.toList) | _ => false)) rfl (by
    rw [List.length_map]
    show big s.cps.toList.length = true
    exact hb) fun x hx => by
    obtain ⟨c, _, rfl⟩ := List.mem_map.mp hx
    rfl
  rw [h, List.map_map]
  rfl
theorem r_is_worth (C : CallF) (d : PyData) (mh : MH) (hd : okD d = true) : runF C Fn.is_worth [.dat d] mh = .ok (.dat (.bool (isWorth d))) mh := by
  cases d with
  | str s =>
    have hb : big s.length = true := hd
    have h1 : cmpD .LtE (.int 1) (.int (s.length : Int)) = some (decide ((1 : Int) ≤ s.length)) := cmp_le_int _ _
    have h2 : cmpD .LtE (.int (s.length : Int)) (.int 8) = some (decide ((s.length : Int) ≤ 8)) := cmp_le_int _ _
    have h3 := itC_signs C s none mh hb
    have e1 : decide ((1 : Int) ≤ s.length) = decide (1 ≤ s.length) := by simp; omega
    have e2 : decide ((s.length : Int) ≤ 8) = decide (s.length ≤ 8) := by simp; omega
    simp [runF, Fn.is_worth, bltD, un, lenD, tyD, RV.passes, h1, h2, hb, h3, isWorth, isWorthS, allD_signRow, -decide_eq_true_eq]
    rw [e1, e2]
    rcases Bool.eq_false_or_eq_true (decide (1 ≤ s.length)) with e3 | e3 <;> rcases Bool.eq_false_or_eq_true (decide (s.length ≤ 8)) with e4 | e4 <;> simp [e3, e4]
    · rw [h3]; simp [allD_signRow]
  | _ => rfl
variable {P : Nat → Option FDef} {sub : Nat → Nat → Option Bool}
theorem c_is_pair (h : P 274 = some Fn.is_pair) (k : Nat) (d : PyData) (mh : MH) : (CF P sub (k + 1)).call 274 [.dat d] mh = .ok (.dat (.bool (isPair d))) mh := by
  rw [cf_succ h, r_is_pair]
theorem c_is_worth (h : P 295 = some Fn.is_worth) (k : Nat) (d : PyData) (mh : MH) (hd : okD d = true) : (CF P sub (k + 1)).call 295 [.dat d] mh = .ok (.dat (.bool (isWorth d))) mh := by
  rw [cf_succ h, r_is_worth _ _ _ hd]
def isName : PyData → Bool
  | .str s => isWorthS s && (match s.cps.toList with | c :: _ => decide (c ∈ letters.cps.toList) | [] => false)
  | _ => false
theorem len_cps (s : Str) : s.length = s.cps.toList.length := rfl
theorem c_is_name (h : P 265 = some Fn.is_name) (h1 : P 295 = some Fn.is_worth) (k : Nat) (d : PyData) (mh : MH) (hd : okD d = true) : (CF P sub (k + 2)).call 265 [.dat d] mh = .ok (.dat (.bool (isName d))) mh := by
  rw [cf_succ h]
  have hw := fun mh => c_is_worth (sub := sub) h1 k d mh hd
  cases d with
  | str s =>
    have hb : big s.length = true := hd
    cases e : isWorthS s with
    | false => simp [runF, Fn.is_name, RV.passes, RV.isDat, hw, isWorth, isName, e]
    | true =>
      have : ∃ c l, s.cps.toList = c :: l := by
        cases e2 : s.cps.toList with
        | nil =>
          have : s.length = 0 := by rw [len_cps, e2]; rfl
          simp [isWorthS, this] at e
        | cons c l => exact ⟨c, l, rfl⟩
      obtain ⟨c, l, e2⟩ := this
      have hi : idxD (.str s) (.int 0) = some (.str ⟨#[c]⟩) := by
        show (if big s.length then (L2.atI s.cps.toList 0).map fun c => PyData.str ⟨#[c]⟩ else none) = _
        rw [hb, e2]
        simp [L2.atI, L2.ixN]
      have hc : cmpD .In (.str ⟨#[c]⟩) (.str "abcdefghijklmnopqrstuvwxyz") = some (decide (c ∈ letters.cps.toList)) := rfl
      simp [runF, Fn.is_name, RV.passes, RV.isDat, hw, isWorth, isName, e, hi, hc, e2]
  | _ => simp [runF, Fn.is_name, RV.passes, RV.isDat, hw, isWorth, isName]
/-- texts in rising order -/
def rise : List Str → Bool
  | a :: b :: r => decide (a.cps.toList < b.cps.toList) && rise (b :: r)
  | _ => true
theorem rngD_map (lo : Int) : ∀ n, rngD lo n = (List.range n).map fun i : Nat => PyData.int (lo + i) := by
  intro n
  induction n generalizing lo with
  | zero => rfl
  | succ n ih =>
    rw [rngD, ih, List.range_succ_eq_map, List.map_cons, List.map_map]
    congr 1
    · simp
    · apply List.map_congr_left; intro i _; simp; omega
theorem rise_range : ∀ ss : List Str, rise ss = (List.range (ss.length - 1)).all fun i => decide ((ss.getD i Str.empty).cps.toList < (ss.getD (i + 1) Str.empty).cps.toList)
  | [] => rfl
  | [_] => rfl
  | a :: b :: r => by
    rw [rise, rise_range (b :: r)]
    show _ = (List.range (r.length + 1)).all _
    rw [List.range_succ_eq_map, List.all_cons, List.all_map]
    rfl

theorem atD_nat (xs : List PyData) (i : Nat) : atD xs (i : Int) = xs[i]? := by
  unfold atD L2.atI L2.ixN
  by_cases h : i < xs.length
  · have h1 : (0 : Int) ≤ i := by omega
    have h2 : (i : Int) < xs.length := by omega
    simp [h1, h2, h]
  · have h1 : (0 : Int) ≤ i := by omega
    have h2 : ¬ (i : Int) < xs.length := by omega
    have h3 : xs[i]? = none := List.getElem?_eq_none (by omega)
    simp [h1, h2, h3]
def riseRow (ss : List Str) : PyData := .list ((List.range (ss.length - 1)).map fun i => PyData.bool (decide ((ss.getD i Str.empty).cps.toList < (ss.getD (i + 1) Str.empty).cps.toList)))
theorem allD_riseRow (ss : List Str) : allD (riseRow ss) = some (.bool (rise ss)) := by
  rw [rise_range]; exact all_map _ _
theorem itC_rise (C : CallF) (ss : List Str) (D : PyData) (hD : D = .list (ss.map .str) ∨ D = .tuple (ss.map .str)) (mh : MH) (hb : big ss.length = true) :
    (evP C (.comp (.cmp .Lt (.idx (.var 0) (.bin .Sub (.var 1) (.cst (.int 1)))) (.idx (.var 0) (.var 1))) (.nm 1) (.rng2 (.cst (.int 1)) (.blt .len (.cons (.var 0) .nil))) (.cst (.bool true)) [1])).1 [some (.dat D), none] mh = .ok (.dat (riseRow ss)) mh := by
  have hlen : lenD D = some (.int ss.length) := by rcases hD with e | e <;> rw [e] <;> simp [lenD]
  have hat : ∀ i : Nat, idxD D (.int i) = (ss.map PyData.str)[i]? := fun i => by rcases hD with e | e <;> rw [e] <;> exact atD_nat _ i
  have hle : (ss.length : Int) ≤ 16777216 := by have := of_decide_eq_true hb; omega
  have h := ev_map (C := C) (elt := .cmp .Lt (.idx (.var 0) (.bin .Sub (.var 1) (.cst (.int 1)))) (.idx (.var 0) (.var 1))) (c := .cst (.bool true)) (tg := .nm 1) (own := [1]) (it := .rng2 (.cst (.int 1)) (.blt .len (.cons (.var 0) .nil))) (env := [some (.dat D), none]) (mh := mh) (mh1 := mh) (xs := (List.range (ss.length - 1)).map fun i : Nat => PyData.int (1 + i)) (f := fun d => match d with | .int j => .bool (decide ((ss.getD (j.toNat - 1) Str.empty).cps.toList < (ss.getD j.toNat Str.empty).cps.toList)) | _ => .none) (by
      have hr : rngD 1 (ss.length - 1) = (List.range (ss.length - 1)).map fun i : Nat => PyData.int (1 + i) := by
        rw [rngD_map]
      have hc : (-16777216 : Int) ≤ 1 ∧ (1 : Int) ≤ 16777216 ∧ (-16777216 : Int) ≤ ss.length ∧ (ss.length : Int) ≤ 16777216 := by omega
      simp [evIt, bltD, un, hlen, hr, hc])
    (by
      rw [List.length_map, List.length_range]
      exact decide_eq_true (by have := of_decide_eq_true hb; omega)) fun x hx => by
    obtain ⟨i, hi, rfl⟩ := List.mem_map.mp hx
    have hi : i < ss.length - 1 := List.mem_range.mp hi
    have g1 : idxD D (.int (1 + (i : Int) - 1)) = some (.str (ss.getD i Str.empty)) := by
      have : (1 + (i : Int) - 1) = (i : Int) := by omega
      rw [this, hat, List.getElem?_map, List.getD_eq_getElem?_getD, List.getElem?_eq_getElem (by omega)]; rfl
    have g2 : idxD D (.int (1 + (i : Int))) = some (.str (ss.getD (i + 1) Str.empty)) := by
      have : (1 + (i : Int)) = ((i + 1 : Nat) : Int) := by omega
      rw [this, hat, List.getElem?_map, List.getD_eq_getElem?_getD, List.getElem?_eq_getElem (by omega)]; rfl
    have e1 : (1 + (i : Int)).toNat = i + 1 := by omega
    have hb1 : binD .Sub (.int (1 + (i : Int))) (.int 1) = some (.int (1 + (i : Int) - 1)) := rfl
    simp [cmpTurn, bindT, wipeM, hb1, g1, g2, cmp_lt_str, e1]
  rw [h, List.map_map]
  congr 2
  unfold riseRow
  congr 1
  apply List.map_congr_left
  intro i _
  have e1 : (1 + (i : Int)).toNat = i + 1 := by omega
  simp [e1]
theorem r_is_rising (C : CallF) (ss : List Str) (D : PyData) (hD : D = .list (ss.map .str) ∨ D = .tuple (ss.map .str)) (mh : MH) (hb : big ss.length = true) :
    runF C Fn.is_rising [.dat D] mh = .ok (.dat (.bool (rise ss))) mh := by
  have h := itC_rise C ss D hD mh hb
  simp [runF, Fn.is_rising, RV.passes, h, bltD, un, allD_riseRow]
theorem c_is_rising (h : P 280 = some Fn.is_rising) (k : Nat) (ss : List Str) (D : PyData) (hD : D = .list (ss.map .str) ∨ D = .tuple (ss.map .str)) (mh : MH) (hb : big ss.length = true) : (CF P sub (k + 1)).call 280 [.dat D] mh = .ok (.dat (.bool (rise ss))) mh := by
  rw [cf_succ h, r_is_rising _ _ _ hD _ hb]

theorem plainA_strs : ∀ ss : List Str, PyData.plainAll (ss.map .str) = true
  | [] => by simp [PyData.plainAll]
  | s :: ss => by simp [PyData.plainAll, PyData.plain, plainA_strs ss]
theorem depthA_strs : ∀ ss : List Str, PyData.depthAll (ss.map .str) ≤ 1
  | [] => by simp [PyData.depthAll]
  | s :: ss => by
    have := depthA_strs ss
    simp [PyData.depthAll, PyData.depth]
    omega
def tS (ss : List Str) : PyData := .tuple (ss.map .str)
theorem depOk_tS (ss : List Str) : depOk (tS ss) = true := by
  have := depthA_strs ss
  simp [depOk, tS, PyData.plain, PyData.depth, plainA_strs]
  omega
theorem eqv_str (a b : Str) : PyData.eqv (.str a) (.str b) = decide (a = b) := by rw [PyData.eqv]; rfl
def isWord (d : PyData) (ws : List Str) : Bool := match d with
  | .str s => decide (s ∈ ws)
  | _ => false
theorem any_strs (s : Str) : ∀ ws : List Str, (ws.map PyData.str).any (fun z => PyData.eqv z (.str s)) = decide (s ∈ ws)
  | [] => rfl
  | w :: ws => by
    rw [List.map_cons, List.any_cons, any_strs s ws, eqv_str]
    by_cases h : w = s
    · simp [h]
    · have : ¬ s = w := fun e => h e.symm
      simp [h, this]
theorem in_tS (s : Str) (ws : List Str) : cmpD .In (.str s) (tS ws) = some (decide (s ∈ ws)) := by
  show (if depOk (.str s) && depOk (tS ws) then some ((ws.map PyData.str).any fun z => PyData.eqv z (.str s)) else none) = _
  rw [depOk_str, depOk_tS, any_strs]
  rfl
theorem r_is_word (C : CallF) (d : PyData) (ws : List Str) (mh : MH) : runF C Fn.is_word [.dat d, .dat (tS ws)] mh = .ok (.dat (.bool (isWord d ws))) mh := by
  cases d with
  | str s => simp [runF, Fn.is_word, RV.passes, tyD, in_tS, isWord]
  | _ => rfl
theorem c_is_word (h : P 294 = some Fn.is_word) (k : Nat) (d : PyData) (ws : List Str) (mh : MH) : (CF P sub (k + 1)).call 294 [.dat d, .dat (tS ws)] mh = .ok (.dat (.bool (isWord d ws))) mh := by
  rw [cf_succ h, r_is_word]
/-- the texts of a row -/
def strsOf : List PyData → List Str := List.filterMap fun d => match d with
  | .str s => some s
  | _ => none
def isWorths (d : PyData) (lo hi : Int) : Bool := match d with
  | .tuple xs => decide (lo ≤ (xs.length : Int)) && (decide ((xs.length : Int) ≤ hi) && (xs.all isWorth && rise (strsOf xs)))
  | _ => false
theorem worths_strs : ∀ xs : List PyData, xs.all isWorth = true → xs = (strsOf xs).map .str
  | [], _ => rfl
  | .str s :: xs, h => by
    have := worths_strs xs (by simp at h ⊢; exact h.2)
    show PyData.str s :: xs = PyData.str s :: (strsOf xs).map .str
    rw [← this]
  | .none :: _, h => by simp [isWorth] at h
  | .bool _ :: _, h => by simp [isWorth] at h
  | .int _ :: _, h => by simp [isWorth] at h
  | .list _ :: _, h => by simp [isWorth] at h
  | .tuple _ :: _, h => by simp [isWorth] at h
  | .dict _ :: _, h => by simp [isWorth] at h
def worthRow (xs : List PyData) : PyData := .list (xs.map fun x => .bool (isWorth x))
theorem allD_worthRow (xs : List PyData) : allD (worthRow xs) = some (.bool (xs.all isWorth)) := all_map _ _
theorem c_is_worths (h : P 296 = some Fn.is_worths) (h1 : P 295 = some Fn.is_worth) (h2 : P 280 = some Fn.is_rising) (k : Nat) (d : PyData) (lo hi : Int) (mh : MH) (hd : okD d = true) :
    (CF P sub (k + 2)).call 296 [.dat d, .dat (.int lo), .dat (.int hi)] mh = .ok (.dat (.bool (isWorths d lo hi))) mh := by
  rw [cf_succ h]
  cases d with
  | tuple xs =>
    have hd' : (big xs.length && okD.okA xs) = true := hd
    rw [Bool.and_eq_true] at hd'
    have hw := fun d hd mh => c_is_worth (sub := sub) h1 k d mh hd
    have hcm : (evP (CF P sub (k + 1)) (.comp (.pcall 295 (.cons (.var 3) .nil)) (.nm 3) (.of (.var 0)) (.cst (.bool true)) [3])).1 [some (.dat (.tuple xs)), some (.dat (.int lo)), some (.dat (.int hi)), none] mh = .ok (.dat (worthRow xs)) mh := by
      refine ev_map (mh1 := mh) (xs := xs) (f := fun x => .bool (isWorth x)) (by simp [evIt, itemsD]) hd'.1 fun x hx => ?_
      simp [cmpTurn, bindT, wipeM, hw x (okA_mem hd'.2 hx), RV.isDat]
    have l1 : cmpD .LtE (.int lo) (.int (xs.length : Int)) = some (decide (lo ≤ (xs.length : Int))) := cmp_le_int _ _
    have l2 : cmpD .LtE (.int (xs.length : Int)) (.int hi) = some (decide ((xs.length : Int) ≤ hi)) := cmp_le_int _ _
    have hr := fun (e : xs.all isWorth = true) (mh : MH) => c_is_rising (sub := sub) h2 k (strsOf xs) (.tuple xs) (.inr (by rw [← worths_strs xs e])) mh (by
      have : (strsOf xs).length = xs.length := by have := congrArg List.length (worths_strs xs e); simpa using this.symm
      rw [this]; exact hd'.1)
    rcases Bool.eq_false_or_eq_true (decide (lo ≤ (xs.length : Int))) with e1 | e1 <;> rcases Bool.eq_false_or_eq_true (decide ((xs.length : Int) ≤ hi)) with e2 | e2 <;> rcases Bool.eq_false_or_eq_true (xs.all isWorth) with e3 | e3 <;>
      simp [runF, Fn.is_worths, RV.passes, RV.isDat, tyD, bltD, un, lenD, l1, l2, e1, e2, isWorths, hcm, allD_worthRow, e3, -decide_eq_true_eq, -List.all_eq_true, -decide_eq_false_iff_not, -List.all_eq_false, hr]
  | _ => simp [runF, Fn.is_worths, RV.passes, RV.isDat, tyD, isWorths]
end Mn
end
section
set_option linter.all false
set_option autoImplicit false
set_option maxRecDepth 100000
namespace Mn
open PySem
variable {P : Nat → Option FDef} {sub : Nat → Nat → Option Bool}
def leafOk : PyData → Bool
  | .tuple [a, b] => isName a && isWorths b 1 8
  | _ => false
def fst2 : PyData → PyData
  | .tuple [a, _] => a
  | _ => .none
def namesOf (xs : List PyData) : List Str := strsOf (xs.map fst2)
def isGround : PyData → Bool
  | .tuple xs => decide ((1 : Int) ≤ (xs.length : Int)) && (decide ((xs.length : Int) ≤ 40) && (xs.all leafOk && rise (namesOf xs)))
  | _ => false
theorem isName_str {d : PyData} (h : isName d = true) : ∃ s, d = .str s := by
  cases d with
  | str s => exact ⟨s, rfl⟩
  | _ => simp [isName] at h
theorem leafOk_shape {x : PyData} (h : leafOk x = true) : ∃ s b, x = .tuple [.str s, b] ∧ isName (.str s) = true ∧ isWorths b 1 8 = true := by
  match x, h with
  | .tuple [a, b], h =>
    have h' : (isName a && isWorths b 1 8) = true := h
    rw [Bool.and_eq_true] at h'
    obtain ⟨s, rfl⟩ := isName_str h'.1
    exact ⟨s, b, rfl, h'⟩
theorem names_strs : ∀ xs : List PyData, xs.all leafOk = true → xs.map fst2 = (namesOf xs).map .str
  | [], _ => rfl
  | x :: xs, h => by
    rw [List.all_cons, Bool.and_eq_true] at h
    have ih := names_strs xs h.2
    obtain ⟨s, b, rfl, _⟩ := leafOk_shape h.1
    show PyData.str s :: xs.map fst2 = PyData.str s :: (namesOf xs).map .str
    rw [← ih]
theorem isPair_shape {x : PyData} (h : isPair x = true) : ∃ a b, x = .tuple [a, b] := by
  match x, h with
  | .tuple [a, b], _ => exact ⟨a, b, rfl⟩
theorem isPair_leaf {x : PyData} (h : isPair x = false) : leafOk x = false := by
  match x, h with
  | .tuple [], _ => rfl
  | .tuple [_], _ => rfl
  | .tuple (_ :: _ :: _ :: _), _ => rfl
  | .none, _ => rfl
  | .bool _, _ => rfl
  | .int _, _ => rfl
  | .str _, _ => rfl
  | .list _, _ => rfl
  | .dict _, _ => rfl
def gBody : Ss := (.cons (.if_ (.or_ (.not_ (.pcall 274 (.cons (.var 1) .nil))) (.or_ (.not_ (.pcall 265 (.cons (.idx (.var 1) (.cst (.int 0))) .nil))) (.not_ (.pcall 296 (.cons (.idx (.var 1) (.cst (.int 1))) (.cons (.cst (.int 1)) (.cons (.cst (.int 8)) .nil))))))) (.cons (.ret (.cst (.bool false))) .nil) .nil) .nil)
theorem idx2_0 (a b : PyData) : idxD (.tuple [a, b]) (.int 0) = some a := rfl
theorem idx2_1 (a b : PyData) : idxD (.tuple [a, b]) (.int 1) = some b := rfl
theorem okD_pair {a b : PyData} (h : okD (.tuple [a, b]) = true) : okD a = true ∧ okD b = true := by
  have h' : (big 2 && (okD a && (okD b && true))) = true := h
  simp only [Bool.and_eq_true] at h'
  exact ⟨h'.2.1, h'.2.2.1⟩
structure HasGround (P : Nat → Option FDef) : Prop where
  wo : P 295 = some Fn.is_worth
  na : P 265 = some Fn.is_name
  ri : P 280 = some Fn.is_rising
  pa : P 274 = some Fn.is_pair
  ws : P 296 = some Fn.is_worths
  gr : P 259 = some Fn.is_ground
theorem gBody_ev (hP : HasGround P) (k : Nat) (x : PyData) (hx : okD x = true) (t : RV) (mh : MH) :
    evSs (CF P sub (k + 2)) gBody [some t, some (.dat x), none, none] mh = if leafOk x then .next [some t, some (.dat x), none, none] mh else .ret (.dat (.bool false)) mh := by
  have c1 := fun mh => c_is_pair (sub := sub) hP.pa (k + 1) x mh
  cases e : isPair x with
  | false =>
    rw [isPair_leaf e]
    simp [gBody, RV.isDat, c1, e]
  | true =>
    obtain ⟨a, b, rfl⟩ := isPair_shape e
    obtain ⟨ha, hb⟩ := okD_pair hx
    have c2 := fun mh => c_is_name (sub := sub) hP.na hP.wo k a mh ha
    have c3 := fun mh => c_is_worths (sub := sub) hP.ws hP.wo hP.ri k b 1 8 mh hb
    cases e2 : isName a with
    | false => simp [gBody, RV.isDat, c1, e, idx2_0, c2, e2, leafOk]
    | true =>
      cases e3 : isWorths b 1 8 with
      | false => simp [gBody, RV.isDat, c1, e, idx2_0, idx2_1, c2, c3, e2, e3, leafOk]
      | true => simp [gBody, RV.isDat, c1, e, idx2_0, idx2_1, c2, c3, e2, e3, leafOk]
theorem c_is_ground (hP : HasGround P) (k : Nat) (d : PyData) (mh : MH) (hd : okD d = true) : (CF P sub (k + 3)).call 259 [.dat d] mh = .ok (.dat (.bool (isGround d))) mh := by
  rw [cf_succ hP.gr]
  cases d with
  | tuple xs =>
    have hd' : (big xs.length && okD.okA xs) = true := hd
    rw [Bool.and_eq_true] at hd'
    have l1 : cmpD .LtE (.int 1) (.int (xs.length : Int)) = some (decide ((1 : Int) ≤ (xs.length : Int))) := cmp_le_int _ _
    have l2 : cmpD .LtE (.int (xs.length : Int)) (.int 40) = some (decide ((xs.length : Int) ≤ 40)) := cmp_le_int _ _
    have hL := forB_until (C := CF P sub (k + 2)) (t := .nm 1) (body := gBody) (I := fun env => ∃ a, env = [some (.dat (.tuple xs)), a, none, none]) (P := leafOk) (r := .dat (.bool false)) (mh := mh) xs [some (.dat (.tuple xs)), none, none, none] ⟨none, rfl⟩ (by
      rintro x hx env ⟨a, rfl⟩
      refine ⟨[some (.dat (.tuple xs)), some (.dat x), none, none], rfl, fun h => ⟨[some (.dat (.tuple xs)), some (.dat x), none, none], .inl ?_, ⟨some (.dat x), rfl⟩⟩, fun h => ?_⟩
      · rw [gBody_ev hP k x (okA_mem hd'.2 hx), if_pos h]
      · rw [gBody_ev hP k x (okA_mem hd'.2 hx), h]; rfl)
    unfold gBody at hL
    cases e3 : xs.all leafOk with
    | false =>
      have hL := hL.2 e3
      rcases Bool.eq_false_or_eq_true (decide ((1 : Int) ≤ (xs.length : Int))) with e1 | e1 <;> rcases Bool.eq_false_or_eq_true (decide ((xs.length : Int) ≤ 40)) with e2 | e2 <;>
        simp [runF, Fn.is_ground, RV.passes, tyD, bltD, un, lenD, l1, l2, e1, e2, isGround, evItF, itemsD, hL, e3, -decide_eq_true_eq, -List.all_eq_true, -decide_eq_false_iff_not, -List.all_eq_false]
    | true =>
      obtain ⟨env', hL, a, rfl⟩ := hL.1 e3
      have hcm : ∀ mh, (evP (CF P sub (k + 2)) (.comp (.var 2) (.cons (.nm 2) (.cons (.nm 3) .nil)) (.of (.var 0)) (.cst (.bool true)) [2, 3])).1 [some (.dat (.tuple xs)), a, none, none] mh = .ok (.dat (.list ((namesOf xs).map .str))) mh := fun mh => by
        rw [← names_strs xs e3]
        refine ev_map (mh1 := mh) (xs := xs) (by simp [evIt, itemsD]) hd'.1 fun x hx => ?_
        obtain ⟨s, b, rfl, _⟩ := leafOk_shape (List.all_eq_true.mp e3 x hx)
        simp [cmpTurn, bindT, wipeM, fst2]
      have hr := fun mh => c_is_rising (sub := sub) hP.ri (k + 1) (namesOf xs) (.list ((namesOf xs).map .str)) (.inl rfl) mh (by
        have : (namesOf xs).length = xs.length := by have := congrArg List.length (names_strs xs e3); simpa using this.symm
        rw [this]; exact hd'.1)
      rcases Bool.eq_false_or_eq_true (decide ((1 : Int) ≤ (xs.length : Int))) with e1 | e1 <;> rcases Bool.eq_false_or_eq_true (decide ((xs.length : Int) ≤ 40)) with e2 | e2 <;>
        simp [runF, Fn.is_ground, RV.passes, RV.isDat, tyD, bltD, un, lenD, l1, l2, e1, e2, isGround, evItF, itemsD, hL, e3, hcm, hr, -decide_eq_true_eq, -List.all_eq_true, -decide_eq_false_iff_not, -List.all_eq_false]
  | _ => simp [runF, Fn.is_ground, RV.passes, RV.isDat, tyD, isGround]
end Mn
end
section
set_option linter.all false
set_option autoImplicit false
set_option maxRecDepth 100000
namespace Mn
open PySem
variable {P : Nat → Option FDef} {sub : Nat → Nat → Option Bool}
/-! ### a ground, as data -/
abbrev Gr := List (Str × List Str)
def leafD (p : Str × List Str) : PyData := .tuple [.str p.1, tS p.2]
def gD (g : Gr) : PyData := .tuple (g.map leafD)
theorem lenD_tuple (xs : List PyData) : lenD (.tuple xs) = some (.int xs.length) := rfl
theorem lenD_list (xs : List PyData) : lenD (.list xs) = some (.int xs.length) := rfl
structure HasAsk (P : Nat → Option FDef) : Prop extends HasGround P where
  wd : P 294 = some Fn.is_word
  ak : P 190 = some Fn.ask_ground
  so : P 285 = some Fn.is_state_of
  eo : P 253 = some Fn.is_edit_of
  st : P 284 = some Fn.is_state
  ed : P 251 = some Fn.is_edit
theorem c_ask_ok (hP : HasAsk P) (k : Nat) (d : PyData) (mh : MH) (hd : okD d = true) (hg : isGround d = true) : (CF P sub (k + 4)).call 190 [.dat d] mh = .ok (.dat .none) mh := by
  have h := fun mh => c_is_ground (sub := sub) hP.toHasGround k d mh hd
  rw [cf_succ hP.ak]
  simp [runF, Fn.ask_ground, RV.passes, RV.isDat, h, hg]
theorem c_ask_no (hP : HasAsk P) (k : Nat) (d : PyData) (mh : MH) (hd : okD d = true) (hg : isGround d = false) : (CF P sub (k + 4)).call 190 [.dat d] mh = .exc ⟨15, none⟩ mh := by
  have h := fun mh => c_is_ground (sub := sub) hP.toHasGround k d mh hd
  rw [cf_succ hP.ak]
  simp [runF, Fn.ask_ground, RV.passes, RV.isDat, h, hg]
/-- only a tuple's sizes matter -/
def okT : PyData → Bool
  | .tuple xs => okD (.tuple xs)
  | _ => true
theorem okT_of {d : PyData} (h : okD d = true) : okT d = true := by
  cases d with
  | tuple xs => exact h
  | _ => rfl
def stateRow : List PyData → Gr → List Bool
  | x :: xs, p :: g => isWord x p.2 :: stateRow xs g
  | _, _ => []
def isStateOf (g : Gr) : PyData → Bool
  | .tuple xs => decide ((xs.length : Int) = (g.length : Int)) && (stateRow xs g).all id
  | _ => false
theorem stateRow_zip (f : PyData → PyData) (hf : ∀ x p, f (.tuple [x, leafD p]) = .bool (isWord x p.2)) : ∀ (xs : List PyData) (g : Gr), (zipD2 xs (g.map leafD)).map f = (stateRow xs g).map .bool
  | [], _ => rfl
  | _ :: _, [] => rfl
  | x :: xs, p :: g => by
    show f _ :: (zipD2 xs (g.map leafD)).map f = .bool (isWord x p.2) :: (stateRow xs g).map .bool
    rw [stateRow_zip f hf xs g, hf]
theorem zip_mem : ∀ {xs : List PyData} {g : Gr} {z : PyData}, z ∈ zipD2 xs (g.map leafD) → ∃ x p, z = .tuple [x, leafD p]
  | x :: xs, p :: g, z, h => by
    have h' : z ∈ PyData.tuple [x, leafD p] :: zipD2 xs (g.map leafD) := h
    rcases List.mem_cons.mp h' with e | e
    · exact ⟨x, p, e⟩
    · exact zip_mem e
theorem zip_len : ∀ (xs : List PyData) (g : Gr), (zipD2 xs (g.map leafD)).length ≤ xs.length
  | [], _ => Nat.le_refl 0
  | _ :: _, [] => Nat.zero_le _
  | x :: xs, p :: g => Nat.succ_le_succ (zip_len xs g)
def wordTurn : PyData → PyData
  | .tuple [x, .tuple [_, .tuple ws]] => .bool (isWord x (strsOf ws))
  | _ => .none
theorem strsOf_map : ∀ ss : List Str, strsOf (ss.map .str) = ss
  | [] => rfl
  | s :: ss => by
    show s :: strsOf (ss.map .str) = s :: ss
    rw [strsOf_map ss]
theorem wordTurn_leaf (x : PyData) (p : Str × List Str) : wordTurn (.tuple [x, leafD p]) = .bool (isWord x p.2) := by
  show PyData.bool (isWord x (strsOf (p.2.map .str))) = _
  rw [strsOf_map]
theorem allD_bools (bs : List Bool) : allD (.list (bs.map .bool)) = some (.bool (bs.all id)) := all_map id bs
def boolsL (bs : List Bool) : PyData := .list (bs.map .bool)
theorem allD_boolsL (bs : List Bool) : allD (boolsL bs) = some (.bool (bs.all id)) := allD_bools bs
theorem c_is_state_of (hP : HasAsk P) (k : Nat) (g : Gr) (d : PyData) (mh : MH) (hd : okT d = true) : (CF P sub (k + 2)).call 285 [.dat (gD g), .dat d] mh = .ok (.dat (.bool (isStateOf g d))) mh := by
  rw [cf_succ hP.so]
  cases d with
  | tuple xs =>
    have hd' : (big xs.length && okD.okA xs) = true := hd
    rw [Bool.and_eq_true] at hd'
    have l1 : cmpD .NotEq (.int (xs.length : Int)) (.int (g.length : Int)) = some (!decide ((xs.length : Int) = (g.length : Int))) := cmp_ne_int _ _
    have lg : lenD (gD g) = some (.int (g.length : Int)) := by simp [lenD, gD]
    have sg : seqD (gD g) = some (g.map leafD) := rfl
    have cw := fun x ws mh => c_is_word (sub := sub) hP.wd k x ws mh
    have hcm : (evP (CF P sub (k + 1)) (.comp (.pcall 294 (.cons (.var 2) (.cons (.idx (.var 3) (.cst (.int 1))) .nil))) (.cons (.nm 2) (.cons (.nm 3) .nil)) (.zip2 (.var 1) (.var 0)) (.cst (.bool true)) [2, 3])).1 [some (.dat (gD g)), some (.dat (.tuple xs)), none, none] mh = .ok (.dat (boolsL (stateRow xs g))) mh := by
      unfold boolsL
      rw [← stateRow_zip wordTurn wordTurn_leaf]
      refine ev_map (mh1 := mh) (xs := zipD2 xs (g.map leafD)) (f := wordTurn) (by simp [evIt, seqD, sg]; rfl) (decide_eq_true (Nat.le_trans (zip_len xs g) (of_decide_eq_true hd'.1))) fun z hz => ?_
      obtain ⟨x, p, rfl⟩ := zip_mem hz
      have h1 : idxD (leafD p) (.int 1) = some (tS p.2) := rfl
      rw [wordTurn_leaf]
      simp [cmpTurn, bindT, wipeM, h1, cw, RV.isDat]
    cases e1 : decide ((xs.length : Int) = (g.length : Int)) <;>
      simp [runF, Fn.is_state_of, RV.passes, RV.isDat, tyD, bltD, un, lenD_tuple, lg, l1, e1, isStateOf, hcm, allD_boolsL, -decide_eq_true_eq, -List.all_eq_true, -decide_eq_false_iff_not, -List.all_eq_false]
  | _ => simp [runF, Fn.is_state_of, RV.passes, RV.isDat, tyD, isStateOf]
theorem c_is_state (hP : HasAsk P) (k : Nat) (g : Gr) (d : PyData) (mh : MH) (hd : okT d = true) (hg : okD (gD g) = true) (h : isGround (gD g) = true) : (CF P sub (k + 5)).call 284 [.dat (gD g), .dat d] mh = .ok (.dat (.bool (isStateOf g d))) mh := by
  have h1 := fun mh => c_ask_ok (sub := sub) hP k (gD g) mh hg h
  have h2 := fun mh => c_is_state_of (sub := sub) hP (k + 2) g d mh hd
  rw [cf_succ hP.st]
  simp [runF, Fn.is_state, RV.passes, RV.isDat, h1, h2]
theorem c_is_state_no (hP : HasAsk P) (k : Nat) (w d : PyData) (mh : MH) (hg : okD w = true) (h : isGround w = false) : (CF P sub (k + 5)).call 284 [.dat w, .dat d] mh = .exc ⟨15, none⟩ mh := by
  have h1 := fun mh => c_ask_no (sub := sub) hP k w mh hg h
  rw [cf_succ hP.st]
  simp [runF, Fn.is_state, RV.passes, RV.isDat, h1]
theorem c_is_edit_no (hP : HasAsk P) (k : Nat) (w d : PyData) (mh : MH) (hg : okD w = true) (h : isGround w = false) : (CF P sub (k + 5)).call 251 [.dat w, .dat d] mh = .exc ⟨15, none⟩ mh := by
  have h1 := fun mh => c_ask_no (sub := sub) hP k w mh hg h
  rw [cf_succ hP.ed]
  simp [runF, Fn.is_edit, RV.passes, RV.isDat, h1]
end Mn
end
section
set_option linter.all false
set_option autoImplicit false
set_option maxRecDepth 100000
namespace Mn
open PySem
variable {P : Nat → Option FDef} {sub : Nat → Nat → Option Bool}
def look : Gr → Str → Option (List Str)
  | [], _ => none
  | (k, v) :: g, s => if k = s then some v else look g s
def kvsOf (g : Gr) : List (PyData × PyData) := g.map fun p => (.str p.1, tS p.2)
theorem dget_kvs (s : Str) : ∀ g : Gr, dget (kvsOf g) (.str s) = (look g s).map tS
  | [] => rfl
  | (k, v) :: g => by
    show (if keyEq (.str k) (.str s) then some (tS v) else dget (kvsOf g) (.str s)) = (if k = s then some v else look g s).map tS
    rw [dget_kvs s g]
    by_cases h : k = s
    · simp [keyEq, key1Eq, h]
    · simp [keyEq, key1Eq, h]
theorem kind_kvs (s : Str) (g : Gr) : kindOk (kvsOf g) (.str s) = true := by
  have : ((kvsOf g).all fun p => isKey1 p.1) = true := by
    rw [List.all_eq_true]; intro p hp
    obtain ⟨q, _, rfl⟩ := List.mem_map.mp hp
    rfl
  unfold kindOk
  rw [this]
  rfl
theorem pairs_kvs : ∀ (g acc : Gr), ((acc ++ g).map (·.1)).Nodup → pairsD (g.map leafD) (kvsOf acc) = some (kvsOf (acc ++ g))
  | [], acc, _ => by simp [pairsD]
  | p :: g, acc, h => by
    have h1 : dput (kvsOf acc) (.str p.1) (tS p.2) = kvsOf (acc ++ [p]) := by
      have : ((kvsOf acc).any fun q => keyEq q.1 (.str p.1)) = false := by
        rw [List.any_eq_false]; intro q hq
        obtain ⟨r, hr, rfl⟩ := List.mem_map.mp hq
        have hne : r.1 ≠ p.1 := by
          intro e
          rw [List.map_append, List.map_cons] at h
          exact (List.nodup_append.mp h).2.2 r.1 (List.mem_map_of_mem hr) p.1 List.mem_cons_self e
        simp [keyEq, key1Eq, hne]
      unfold dput
      rw [this]
      simp [kvsOf]
    have ih := pairs_kvs g (acc ++ [p]) (by rw [List.append_assoc]; exact h)
    rw [List.append_assoc] at ih
    show (if isKey1 (.str p.1) then pairsD (g.map leafD) (dput (kvsOf acc) (.str p.1) (tS p.2)) else none) = _
    rw [h1]
    exact ih
theorem rise_tail {a : Str} {ss : List Str} (h : rise (a :: ss) = true) : rise ss = true := by
  cases ss with
  | nil => rfl
  | cons b r =>
    have h' : (decide (a.cps.toList < b.cps.toList) && rise (b :: r)) = true := h
    rw [Bool.and_eq_true] at h'
    exact h'.2
theorem rise_lt : ∀ (ss : List Str) (a : Str), rise (a :: ss) = true → ∀ b ∈ ss, a.cps.toList < b.cps.toList
  | c :: r, a, h, b, hb => by
    have h' : (decide (a.cps.toList < c.cps.toList) && rise (c :: r)) = true := h
    rw [Bool.and_eq_true] at h'
    have h1 : a.cps.toList < c.cps.toList := of_decide_eq_true h'.1
    rcases List.mem_cons.mp hb with e | e
    · rw [e]; exact h1
    · exact List.lt_trans h1 (rise_lt r c h'.2 b e)
theorem rise_nodup : ∀ ss : List Str, rise ss = true → ss.Nodup
  | [], _ => List.nodup_nil
  | a :: ss, h => by
    refine List.nodup_cons.mpr ⟨fun hm => ?_, rise_nodup ss (rise_tail h)⟩
    exact List.lt_irrefl _ (rise_lt ss a h a hm)
theorem names_gD : ∀ g : Gr, namesOf (g.map leafD) = g.map (·.1)
  | [] => rfl
  | p :: g => by
    show p.1 :: namesOf (g.map leafD) = _
    rw [names_gD g]; rfl
theorem ground_nodup {g : Gr} (h : isGround (gD g) = true) : (g.map (·.1)).Nodup := by
  have h' : (decide ((1 : Int) ≤ ((g.map leafD).length : Int)) && (decide (((g.map leafD).length : Int) ≤ 40) && ((g.map leafD).all leafOk && rise (namesOf (g.map leafD))))) = true := h
  simp only [Bool.and_eq_true] at h'
  rw [← names_gD]
  exact rise_nodup _ h'.2.2.2
def editLeaf (g : Gr) : PyData → Bool
  | .tuple [.str s, b] => (match look g s with
    | some ws => isWord b ws
    | none => false)
  | _ => false
def isEditOf (g : Gr) : PyData → Bool
  | .tuple xs => xs.all (editLeaf g) && rise (namesOf xs)
  | _ => false
theorem editLeaf_shape {g : Gr} {x : PyData} (h : editLeaf g x = true) : ∃ s b, x = .tuple [.str s, b] := by
  match x, h with
  | .tuple [.str s, b], _ => exact ⟨s, b, rfl⟩
theorem editLeaf_nopair {g : Gr} {x : PyData} (h : isPair x = false) : editLeaf g x = false := by
  match x, h with
  | .tuple [], _ => rfl
  | .tuple [a], _ => (cases a <;> rfl)
  | .tuple (a :: b :: c :: d), _ => simp [editLeaf]
  | .none, _ => rfl
  | .bool _, _ => rfl
  | .int _, _ => rfl
  | .str _, _ => rfl
  | .list _, _ => rfl
  | .dict _, _ => rfl
theorem edit_names {g : Gr} : ∀ xs : List PyData, xs.all (editLeaf g) = true → xs.map fst2 = (namesOf xs).map .str
  | [], _ => rfl
  | x :: xs, h => by
    rw [List.all_cons, Bool.and_eq_true] at h
    have ih := edit_names xs h.2
    obtain ⟨s, b, rfl⟩ := editLeaf_shape h.1
    show PyData.str s :: xs.map fst2 = PyData.str s :: (namesOf xs).map .str
    rw [← ih]
def eBody : Ss := (.cons (.if_ (.or_ (.not_ (.pcall 274 (.cons (.var 3) .nil))) (.or_ (.not_ (.isi (.idx (.var 3) (.cst (.int 0))) .str)) (.cmp .NotIn (.idx (.var 3) (.cst (.int 0))) (.var 2)))) (.cons (.ret (.cst (.bool false))) .nil) .nil) (.cons (.if_ (.not_ (.pcall 294 (.cons (.idx (.var 3) (.cst (.int 1))) (.cons (.idx (.var 2) (.idx (.var 3) (.cst (.int 0)))) .nil)))) (.cons (.ret (.cst (.bool false))) .nil) .nil) .nil))
theorem eBody_ev (hP : HasAsk P) (k : Nat) (g : Gr) (x : PyData) (t u : RV) (mh : MH) :
    evSs (CF P sub (k + 1)) eBody [some t, some u, some (.dat (.dict (kvsOf g))), some (.dat x), none, none] mh = if editLeaf g x then .next [some t, some u, some (.dat (.dict (kvsOf g))), some (.dat x), none, none] mh else .ret (.dat (.bool false)) mh := by
  have c1 := fun mh => c_is_pair (sub := sub) hP.pa k x mh
  cases e : isPair x with
  | false =>
    rw [editLeaf_nopair e]
    simp [eBody, RV.isDat, c1, e]
  | true =>
    obtain ⟨a, b, rfl⟩ := isPair_shape e
    cases a with
    | str s =>
      have c2 := fun ws mh => c_is_word (sub := sub) hP.wd k b ws mh
      have hn : cmpD .NotIn (.str s) (.dict (kvsOf g)) = some (!(look g s).isSome) := by
        show ((if kindOk (kvsOf g) (.str s) then some (dget (kvsOf g) (.str s)).isSome else none : Option Bool).map not) = _
        rw [kind_kvs, dget_kvs, if_pos rfl]
        cases look g s <;> rfl
      have hi : idxD (.dict (kvsOf g)) (.str s) = (look g s).map tS := by
        show (if kindOk (kvsOf g) (.str s) then dget (kvsOf g) (.str s) else none) = _
        rw [kind_kvs, dget_kvs, if_pos rfl]
      cases e2 : look g s with
      | none => simp [eBody, RV.isDat, c1, e, idx2_0, idx2_1, tyD, hn, e2, editLeaf]
      | some ws =>
        cases e3 : isWord b ws with
        | false => simp [eBody, RV.isDat, c1, e, idx2_0, idx2_1, tyD, hn, hi, e2, editLeaf, c2, e3]
        | true => simp [eBody, RV.isDat, c1, e, idx2_0, idx2_1, tyD, hn, hi, e2, editLeaf, c2, e3]
    | _ => simp [eBody, RV.isDat, c1, e, idx2_0, idx2_1, tyD, editLeaf]
theorem c_is_edit_of (hP : HasAsk P) (k : Nat) (g : Gr) (d : PyData) (mh : MH) (hd : okT d = true) (hg : (g.map (·.1)).Nodup) : (CF P sub (k + 2)).call 253 [.dat (gD g), .dat d] mh = .ok (.dat (.bool (isEditOf g d))) mh := by
  rw [cf_succ hP.eo]
  cases d with
  | tuple xs =>
    have hd' : (big xs.length && okD.okA xs) = true := hd
    rw [Bool.and_eq_true] at hd'
    have hk : dctD (gD g) = some (.dict (kvsOf g)) := by
      show (pairsD (g.map leafD) (kvsOf [])).map PyData.dict = _
      rw [pairs_kvs g [] hg]; rfl
    have hL := forB_until (C := CF P sub (k + 1)) (t := .nm 3) (body := eBody) (I := fun env => ∃ a, env = [some (.dat (gD g)), some (.dat (.tuple xs)), some (.dat (.dict (kvsOf g))), a, none, none]) (P := editLeaf g) (r := .dat (.bool false)) (mh := mh) xs [some (.dat (gD g)), some (.dat (.tuple xs)), some (.dat (.dict (kvsOf g))), none, none, none] ⟨none, rfl⟩ (by
      rintro x hx env ⟨a, rfl⟩
      refine ⟨[some (.dat (gD g)), some (.dat (.tuple xs)), some (.dat (.dict (kvsOf g))), some (.dat x), none, none], rfl, fun h => ⟨[some (.dat (gD g)), some (.dat (.tuple xs)), some (.dat (.dict (kvsOf g))), some (.dat x), none, none], .inl ?_, ⟨some (.dat x), rfl⟩⟩, fun h => ?_⟩
      · rw [eBody_ev hP k g x, if_pos h]
      · rw [eBody_ev hP k g x, h]; rfl)
    unfold eBody at hL
    cases e3 : xs.all (editLeaf g) with
    | false =>
      have hL := hL.2 e3
      simp [runF, Fn.is_edit_of, RV.passes, tyD, bltD, un, hk, bindT, isEditOf, evItF, itemsD, hL, e3, -List.all_eq_true, -List.all_eq_false]
    | true =>
      obtain ⟨env', hL, a, rfl⟩ := hL.1 e3
      have hcm : ∀ mh, (evP (CF P sub (k + 1)) (.comp (.var 4) (.cons (.nm 4) (.cons (.nm 5) .nil)) (.of (.var 1)) (.cst (.bool true)) [4, 5])).1 [some (.dat (gD g)), some (.dat (.tuple xs)), some (.dat (.dict (kvsOf g))), a, none, none] mh = .ok (.dat (.list ((namesOf xs).map .str))) mh := fun mh => by
        rw [← edit_names xs e3]
        refine ev_map (mh1 := mh) (xs := xs) (by simp [evIt, itemsD]) hd'.1 fun x hx => ?_
        obtain ⟨s, b, rfl⟩ := editLeaf_shape (List.all_eq_true.mp e3 x hx)
        simp [cmpTurn, bindT, wipeM, fst2]
      have hr := fun mh => c_is_rising (sub := sub) hP.ri k (namesOf xs) (.list ((namesOf xs).map .str)) (.inl rfl) mh (by
        have : (namesOf xs).length = xs.length := by have := congrArg List.length (edit_names xs e3); simpa using this.symm
        rw [this]; exact hd'.1)
      simp [runF, Fn.is_edit_of, RV.passes, RV.isDat, tyD, bltD, un, hk, bindT, isEditOf, evItF, itemsD, hL, e3, hcm, hr, -List.all_eq_true, -List.all_eq_false]
  | _ => simp [runF, Fn.is_edit_of, RV.passes, RV.isDat, tyD, isEditOf]
theorem c_is_edit (hP : HasAsk P) (k : Nat) (g : Gr) (d : PyData) (mh : MH) (hd : okT d = true) (hg : okD (gD g) = true) (h : isGround (gD g) = true) : (CF P sub (k + 5)).call 251 [.dat (gD g), .dat d] mh = .ok (.dat (.bool (isEditOf g d))) mh := by
  have h1 := fun mh => c_ask_ok (sub := sub) hP k (gD g) mh hg h
  have h2 := fun mh => c_is_edit_of (sub := sub) hP (k + 2) g d mh hd (ground_nodup h)
  rw [cf_succ hP.ed]
  simp [runF, Fn.is_edit, RV.passes, RV.isDat, h1, h2]
end Mn
end
section
set_option linter.all false
set_option autoImplicit false
set_option maxRecDepth 100000
namespace Mn
open PySem
variable {P : Nat → Option FDef} {sub : Nat → Nat → Option Bool}
/-- a loop that keeps a bound -/
theorem forB_inv {C : CallF} {t : Tg} {body : Ss} {I : Nat → MEnv → MH → Prop} (N : Nat) : ∀ (xs : List PyData) (n : Nat) (env : MEnv) (mh : MH), n + xs.length ≤ N → I n env mh →
    (∀ x ∈ xs, ∀ n env mh, n < N → I n env mh → ∃ env', bindT t x env = some env' ∧ ∃ env2 mh2, evSs C body env' mh = .next env2 mh2 ∧ I (n + 1) env2 mh2) →
    ∃ env' mh', forB C t body xs env mh = .next env' mh' ∧ I (n + xs.length) env' mh'
  | [], n, env, mh, _, hI, _ => ⟨env, mh, rfl, hI⟩
  | x :: xs, n, env, mh, hN, hI, h => by
    rw [List.length_cons] at hN
    obtain ⟨env', hb, env2, mh2, e, hI2⟩ := h x List.mem_cons_self n env mh (by omega) hI
    obtain ⟨env3, mh3, e3, hI3⟩ := forB_inv (C := C) (t := t) (body := body) (I := I) N xs (n + 1) env2 mh2 (by omega) hI2 fun y hy => h y (List.mem_cons_of_mem _ hy)
    refine ⟨env3, mh3, ?_, ?_⟩
    · show (match bindT t x env with
        | some env' => (evSs C body env' mh).turn (forL t (fun env mh => evSs C body env mh) xs)
        | none => .stuck) = _
      rw [hb]
      show (evSs C body env' mh).turn _ = _
      rw [e]
      exact e3
    · rw [List.length_cons, Nat.add_comm xs.length 1, ← Nat.add_assoc]; exact hI3
/-- a row of ints -/
def iL (is : List Int) : List PyData := is.map .int
/-! ### a draw -/
theorem r_next_nil (C : CallF) (n : Nat) (m : Int) (mh : MH) (h : mh[n]? = some (.lst [])) : runF C Fn.x_law_next [.ref n, .dat (.int m)] mh = .ok (.dat (.int 0)) mh := by
  have hv : view mh (.ref n) = some (.list []) := by simp [view, h]
  simp [runF, Fn.x_law_next, RV.passes, hv]
theorem r_next_cons (C : CallF) (n : Nat) (m i : Int) (is : List Int) (mh : MH) (hm : 0 < m) (h : mh[n]? = some (.lst (iL (i :: is)))) : runF C Fn.x_law_next [.ref n, .dat (.int m)] mh = .ok (.dat (.int (i % m))) (mh.set n (.lst (iL is))) := by
  have hv : view mh (.ref n) = some (.list (.int i :: iL is)) := by simp [view, h, iL]
  have hl : isLstC (.ref n) mh = true := by simp [isLstC, h]
  have hp : popC (.ref n) [.int 0] mh = .ok (.dat (.int i)) (mh.set n (.lst (iL is))) := by
    have hi : ixD (is.length + 1) 0 = some 0 := by
      have : (0 : Int) < (is.length : Int) + 1 := by omega
      simp [ixD, L2.ixN, this]
    have hs : small62 0 = true := by decide
    simp [popC, h, hs, hi, iL]
  have hb : binD .Mod (.int i) (.int m) = some (.int (i % m)) := by simp [binD, hm]
  simp [runF, Fn.x_law_next, RV.passes, hv, hl, hp, hb, bltD, un, intD]
/-- a draw: some number below, the row of draws is another -/
def drw (n : Nat) (mh mh' : MH) : Prop := ∃ is, mh' = mh.set n (.lst (iL is))
theorem c_next (h : P 103 = some Fn.x_law_next) (k n : Nat) (m : Int) (is : List Int) (mh : MH) (hm : 0 < m) (hn : mh[n]? = some (.lst (iL is))) :
    ∃ j js, (CF P sub (k + 1)).call 103 [.ref n, .dat (.int m)] mh = .ok (.dat (.int j)) (mh.set n (.lst (iL js))) ∧ 0 ≤ j ∧ j < m := by
  cases is with
  | nil =>
    refine ⟨0, [], ?_, by omega, hm⟩
    rw [cf_succ h, r_next_nil _ n m mh hn]
    congr 1
    have hn' : n < mh.length := by
      rcases Nat.lt_or_ge n mh.length with h | h
      · exact h
      · rw [List.getElem?_eq_none h] at hn; cases hn
    have : mh[n] = Cell.lst (iL []) := by rw [List.getElem?_eq_getElem hn'] at hn; exact Option.some.inj hn
    rw [← this, List.set_getElem_self]
  | cons i is => exact ⟨i % m, is, by rw [cf_succ h, r_next_cons _ n m i is mh hm hn], Int.emod_nonneg _ (by omega), Int.emod_lt_of_pos _ hm⟩
/-! ### the draws -/
def dBody : Ss := (.cons (.asg (.nm 7) (.bin .Mod (.blt .int (.cons (.var 6) .nil)) (.blt .len (.cons (.var 2) .nil)))) (.cons (.if_ (.and_ (.cmp .GtE (.idx (.var 2) (.var 7)) (.bin .Pow (.cst (.int 10)) (.cst (.int 18)))) (.cmp .Gt (.idx (.var 4) (.var 7)) (.cst (.int 0)))) (.cons (.app 5 (.bin .Mod (.blt .int (.cons (.idx (.var 4) (.var 7)) .nil)) (.cst (.int 1000)))) (.cons (.setI 4 (.var 7) (.bin .FloorDiv (.idx (.var 4) (.var 7)) (.cst (.int 1000)))) .nil)) (.cons (.asg (.nm 8) (.bin .Mod (.blt .int (.cons (.bin .Add (.bin .Mult (.bin .Add (.idx (.var 2) (.var 7)) (.cst (.int 7))) (.cst (.int 48271))) (.bin .Mult (.bin .Add (.var 6) (.cst (.int 1))) (.cst (.int 69621)))) .nil)) (.cst (.int 2147483647)))) (.cons (.asg (.nm 8) (.bin .Mod (.blt .int (.cons (.bin .Add (.bin .Add (.bin .Mult (.var 8) (.cst (.int 16807))) (.bin .Mult (.bin .Mult (.var 6) (.var 6)) (.cst (.int 40692)))) (.cst (.int 12345))) .nil)) (.cst (.int 2147483399)))) (.cons (.app 5 (.bin .FloorDiv (.var 8) (.cst (.int 64)))) .nil)))) .nil))
theorem bAdd (i j : Int) : binD .Add (.int i) (.int j) = some (.int (i + j)) := rfl
theorem bMod (i j : Int) (h : 0 < j) : binD .Mod (.int i) (.int j) = some (.int (i % j)) := by simp [binD, h]
theorem bMul (i j : Int) (h : small64 i = true ∨ small64 j = true) : binD .Mult (.int i) (.int j) = some (.int (i * j)) := by
  rcases h with h | h <;> simp [binD, h]
theorem bDiv (i j : Int) (h : 0 < j ∧ j < 1073741824) : binD .FloorDiv (.int i) (.int j) = some (.int (i / j)) := by simp [binD, h]
theorem iL_at (is : List Int) (j : Int) (h : 0 ≤ j ∧ j < is.length) : ∃ i, idxD (.list (iL is)) (.int j) = some (.int i) := by
  obtain ⟨n, rfl⟩ := Int.eq_ofNat_of_zero_le h.1
  have hn : n < is.length := by omega
  refine ⟨is[n], ?_⟩
  show atD (iL is) (n : Int) = _
  rw [atD_nat, iL, List.getElem?_map, List.getElem?_eq_getElem hn]; rfl
theorem iL_put (is : List Int) (j v : Int) (h : 0 ≤ j ∧ j < is.length) : ∃ js : List Int, js.length = is.length ∧ putC (.list (iL is)) (.int j) (.int v) = some (.list (iL js)) := by
  obtain ⟨n, rfl⟩ := Int.eq_ofNat_of_zero_le h.1
  have hn : n < is.length := by omega
  refine ⟨is.set n v, by simp, ?_⟩
  have hi : ixD (iL is).length (n : Int) = some n := by
    have h1 : (n : Int) < ((iL is).length : Int) := by simp [iL]; exact hn
    have h0 : (0 : Int) ≤ n := by omega
    simp [ixD, L2.ixN, h1, h0]
  show (ixD (iL is).length (n : Int)).map (fun j => PyData.list ((iL is).set j (.int v))) = _
  rw [hi]
  simp [iL, List.map_set]
def dEnv (D : PyData) (m : Int) (cs ls ds : List Int) (a b c : Option RV) : MEnv := [some (.dat D), some (.dat (.int m)), some (.dat (.list (iL cs))), none, some (.olst (iL ls)), some (.olst (iL ds)), a, b, c]
theorem dBody_ev (C : CallF) (D : PyData) (m : Int) (cs ls ds : List Int) (i : Int) (hi : 0 ≤ i ∧ i < 1000) (hc : 0 < cs.length) (hl : ls.length = cs.length) (hd : ds.length < 1000) (b c : Option RV) (mh : MH) :
    ∃ ls' ds' b' c', evSs C dBody (dEnv D m cs ls ds (some (.dat (.int i))) b c) mh = .next (dEnv D m cs ls' ds' (some (.dat (.int i))) b' c') mh ∧ ls'.length = cs.length ∧ ds'.length = ds.length + 1 := by
  have hm : (0 : Int) < (cs.length : Int) := by omega
  have h1 := bMod i (cs.length : Int) hm
  have hj : 0 ≤ i % (cs.length : Int) ∧ i % (cs.length : Int) < cs.length := ⟨Int.emod_nonneg _ (by omega), Int.emod_lt_of_pos _ hm⟩
  obtain ⟨x, hx⟩ := iL_at cs _ hj
  obtain ⟨y, hy⟩ := iL_at ls (i % (cs.length : Int)) (by rw [hl]; exact hj)
  have hp : binD .Pow (.int 10) (.int 18) = some (.int 1000000000000000000) := by rfl
  have g1 : cmpD .GtE (.int x) (.int 1000000000000000000) = some (decide ((1000000000000000000 : Int) ≤ x)) := cmp_ge_int _ _
  have g2 : cmpD .Gt (.int y) (.int 0) = some (decide (0 < y)) := cmp_gt_int _ _
  have hbg : big ((iL ds).length + 1) = true := decide_eq_true (by simp [iL]; omega)
  have hap : ∀ v : Int, appD (.int v) (.list (iL ds)) = some (.list (iL (ds ++ [v]))) := fun v => by
    show (if big ((iL ds).length + 1) then some (PyData.list (iL ds ++ [.int v])) else none) = _
    rw [hbg]; simp [iL]
  have m1 := bMul (x + 7) 48271 (.inr (by decide))
  have m2 := bMul (i + 1) 69621 (.inr (by decide))
  have a1 := bMod ((x + 7) * 48271 + (i + 1) * 69621) 2147483647 (by decide)
  have m3 := bMul (((x + 7) * 48271 + (i + 1) * 69621) % 2147483647) 16807 (.inr (by decide))
  have m4 := bMul i i (.inl (decide_eq_true (by omega)))
  have m5 := bMul (i * i) 40692 (.inr (by decide))
  have a2 := bMod ((((x + 7) * 48271 + (i + 1) * 69621) % 2147483647) * 16807 + i * i * 40692 + 12345) 2147483399 (by decide)
  have a3 := bDiv (((((x + 7) * 48271 + (i + 1) * 69621) % 2147483647) * 16807 + i * i * 40692 + 12345) % 2147483399) 64 (by decide)
  have a4 := bMod y 1000 (by decide)
  have a5 := bDiv y 1000 (by decide)
  obtain ⟨js, hjs, hput⟩ := iL_put ls (i % (cs.length : Int)) (y / 1000) (by rw [hl]; exact hj)
  have hlen : lenD (.list (iL cs)) = some (.int (cs.length : Int)) := by simp [lenD, iL]
  cases e1 : decide ((1000000000000000000 : Int) ≤ x) with
  | true =>
    cases e2 : decide (0 < y) with
    | true =>
      refine ⟨js, ds ++ [y % 1000], some (.dat (.int (i % (cs.length : Int)))), c, ?_, by rw [hjs, hl], by simp⟩
      simp [dBody, dEnv, bltD, un, intD, hlen, h1, bindT, hx, hy, hp, g1, g2, e1, e2, a4, a5, lstAt, hasAt, upR, hap, hput, -decide_eq_true_eq, -decide_eq_false_iff_not]
    | false =>
      refine ⟨ls, ds ++ [((((x + 7) * 48271 + (i + 1) * 69621) % 2147483647 * 16807 + i * i * 40692 + 12345) % 2147483399) / 64], some (.dat (.int (i % (cs.length : Int)))), some (.dat (.int ((((x + 7) * 48271 + (i + 1) * 69621) % 2147483647 * 16807 + i * i * 40692 + 12345) % 2147483399))), ?_, hl, by simp⟩
      · simp [dBody, dEnv, bltD, un, intD, hlen, h1, bindT, hx, hy, hp, g1, g2, e1, e2, a1, a2, a3, m1, m2, m3, m4, m5, bAdd, lstAt, hasAt, upR, hap, hput, -decide_eq_true_eq, -decide_eq_false_iff_not]
  | false =>
    refine ⟨ls, ds ++ [((((x + 7) * 48271 + (i + 1) * 69621) % 2147483647 * 16807 + i * i * 40692 + 12345) % 2147483399) / 64], some (.dat (.int (i % (cs.length : Int)))), some (.dat (.int ((((x + 7) * 48271 + (i + 1) * 69621) % 2147483647 * 16807 + i * i * 40692 + 12345) % 2147483399))), ?_, hl, by simp⟩
    · simp [dBody, dEnv, bltD, un, intD, hlen, h1, bindT, hx, hy, hp, g1, g2, e1, a1, a2, a3, m1, m2, m3, m4, m5, bAdd, lstAt, hasAt, upR, hap, hput, -decide_eq_true_eq, -decide_eq_false_iff_not]
theorem evS_retM_var {C : CallF} (i : Nat) (env : MEnv) (mh : MH) : evS C (.retM (.var i)) env mh = (match env[i]? with
      | some (some (.olst xs)) => .ret (.olst xs) mh
      | some (some (.odct kvs)) => .ret (.odct kvs) mh
      | _ => .stuck) := rfl
theorem cut_map (ns : List Int) (lo hi : Option Int) : cutD (iL ns) lo hi = iL (cutD ns lo hi) := by
  simp [cutD, iL, List.map_drop, List.map_take]
theorem cut_len {α : Type} (xs : List α) (lo hi : Option Int) : (cutD xs lo hi).length ≤ xs.length := by
  simp [cutD]; omega
def absI (i : Int) : Int := if i < 0 then -i else i
theorem itC_cells (C : CallF) (ns : List Int) (m : Int) (hn : ns.length ≤ 63) (mh : MH) (rest : MEnv) (hr : rest = List.replicate 7 none) :
    (evP C (.comp (.blt .abs (.cons (.blt .int (.cons (.var 3) .nil)) .nil)) (.nm 3) (.of (.slc false true (.var 0) (.cst .none) (.cst (.int 63)))) (.cst (.bool true)) [3])).1 ([some (.dat (scriptD ns)), some (.dat (.int m))] ++ rest) mh = .ok (.dat (.list (iL ((cutD ns none (some 63)).map absI)))) mh := by
  subst hr
  have hs : sliD (scriptD ns) none (some 63) = some (.list (iL (cutD ns none (some 63)))) := by
    show some (PyData.list (cutD (iL ns) none (some 63))) = _
    rw [cut_map]
  have h := ev_map (C := C) (elt := .blt .abs (.cons (.blt .int (.cons (.var 3) .nil)) .nil)) (c := .cst (.bool true)) (tg := .nm 3) (own := [3]) (it := .of (.slc false true (.var 0) (.cst .none) (.cst (.int 63)))) (env := [some (.dat (scriptD ns)), some (.dat (.int m))] ++ List.replicate 7 none) (mh := mh) (mh1 := mh) (xs := iL (cutD ns none (some 63))) (f := fun d => match d with | .int i => .int (absI i) | _ => .none)
    (by simp [evIt, partO, hs, itemsD])
    (decide_eq_true (by have := cut_len ns none (some 63); simp [iL]; omega)) (fun x hx => by
    obtain ⟨i, _, rfl⟩ := List.mem_map.mp hx
    simp [cmpTurn, bindT, wipeM, bltD, un, intD, absD, absI])
  rw [h]
  simp [iL]
theorem c_draws (h : P 31 = some Fn.x_law_draws) (k : Nat) (ns : List Int) (hn : ns.length ≤ 63) (m : Nat) (hm : m ≤ 1000) : ∃ ds : List Int, (CF P sub (k + 1)).call 31 [.dat (scriptD ns), .dat (.int m)] [] = .ok (.olst (iL ds)) [] := by
  have hcm := itC_cells (CF P sub k) ns m hn [] _ rfl
  rw [cf_succ h]
  have key : ∀ cs : List Int, 0 < cs.length → ∃ ls ds a b c, forB (CF P sub k) (.nm 6) dBody (rngD 0 m) (dEnv (scriptD ns) m cs cs [] none none none) [] = .next (dEnv (scriptD ns) m cs ls ds a b c) [] := fun cs hc => by
    obtain ⟨env', mh', e, hI⟩ := forB_inv (C := CF P sub k) (t := .nm 6) (body := dBody) (I := fun n env mh => mh = [] ∧ ∃ ls ds a b c, env = dEnv (scriptD ns) m cs ls ds a b c ∧ ls.length = cs.length ∧ ds.length = n) m (rngD 0 m) 0 (dEnv (scriptD ns) m cs cs [] none none none) [] (by rw [rngD_map, List.length_map, List.length_range]; omega) ⟨rfl, cs, [], none, none, none, rfl, rfl, rfl⟩ (by
      rintro x hx n env mh hn ⟨rfl, ls, ds, a, b, c, rfl, hl, hd⟩
      rw [rngD_map] at hx
      obtain ⟨i, hi, rfl⟩ := List.mem_map.mp hx
      have hi := List.mem_range.mp hi
      obtain ⟨ls', ds', b', c', e, e1, e2⟩ := dBody_ev (CF P sub k) (scriptD ns) m cs ls ds (0 + (i : Int)) ⟨by omega, by omega⟩ hc hl (by omega) b c []
      exact ⟨dEnv (scriptD ns) m cs ls ds (some (.dat (.int (0 + (i : Int))))) b c, rfl, _, _, e, rfl, ls', ds', _, b', c', rfl, e1, by rw [e2, hd]⟩)
    obtain ⟨rfl, ls, ds, a, b, c, rfl, _, _⟩ := hI
    exact ⟨ls, ds, a, b, c, e⟩
  unfold dBody dEnv at key
  rw [show ([some (.dat (scriptD ns)), some (.dat (.int m))] ++ List.replicate 7 none : MEnv) = [some (.dat (scriptD ns)), some (.dat (.int m)), none, none, none, none, none, none, none] from rfl] at hcm
  have hm2 : (m : Int) ≤ 16777216 := by omega
  have hm1 : (-16777216 : Int) ≤ m := by omega
  have hr : evItF (CF P sub k) (.rng1 (.var 1)) = fun env mh => evIt (CF P sub k) (.rng1 (.var 1)) env mh := rfl
  cases e : (cutD ns none (some 63)).map absI with
  | nil =>
    rw [e] at hcm
    obtain ⟨ls, ds, a, b, c, hk⟩ := key [0] Nat.one_pos
    refine ⟨ds, ?_⟩
    simp only [iL, List.map_cons, List.map_nil] at hk hcm
    simp [runF, Fn.x_law_draws, RV.passes, hcm, bindT, bltD, un, lstD, freshV, isFresh, setN, hr, evIt, hm1, hm2, hk, frzR, big, iL, evS_retM_var]
  | cons x xs =>
    rw [e] at hcm
    obtain ⟨ls, ds, a, b, c, hk⟩ := key (x :: xs) (Nat.succ_pos _)
    refine ⟨ds, ?_⟩
    simp only [iL, List.map_cons, List.map_nil] at hk hcm
    simp [runF, Fn.x_law_draws, RV.passes, hcm, bindT, bltD, un, lstD, freshV, isFresh, setN, hr, evIt, hm1, hm2, hk, frzR, big, iL, evS_retM_var]
end Mn
end
section
set_option linter.all false
set_option autoImplicit false
set_option maxRecDepth 100000
namespace Mn
open PySem
variable {P : Nat → Option FDef} {sub : Nat → Nat → Option Bool}
theorem c_nx (h : P 103 = some Fn.x_law_next) (k : Nat) (m : Int) (is : List Int) (hm : 0 < m) :
    ∃ j js, (CF P sub (k + 1)).call 103 [.ref 0, .dat (.int m)] [.lst (iL is)] = .ok (.dat (.int j)) [.lst (iL js)] ∧ 0 ≤ j ∧ j < m := by
  obtain ⟨j, js, e, h1, h2⟩ := c_next (sub := sub) h k 0 m is [.lst (iL is)] hm rfl
  exact ⟨j, js, e, h1, h2⟩
def gNames : List Str := ["a", "b1", "c", "dd", "e"]
def gWorths : List (List Str) := [["0", "1"], ["no", "yes"], ["x", "y", "z"], ["0", "1"], ["2a", "b"], ["u"]]
/-- grounds that the laws draw: the first names, each with one of the six rows -/
def goodG (g : Gr) : Prop := g.map (·.1) = gNames.take g.length ∧ ∀ p ∈ g, p.2 ∈ gWorths
def gnBody : Ss := (.cons (.asg (.nm 5) (.idx (.lst (.cons (.tup (.cons (.cst (.str "0")) (.cons (.cst (.str "1")) .nil))) (.cons (.tup (.cons (.cst (.str "no")) (.cons (.cst (.str "yes")) .nil))) (.cons (.tup (.cons (.cst (.str "x")) (.cons (.cst (.str "y")) (.cons (.cst (.str "z")) .nil)))) (.cons (.tup (.cons (.cst (.str "0")) (.cons (.cst (.str "1")) .nil))) (.cons (.tup (.cons (.cst (.str "2a")) (.cons (.cst (.str "b")) .nil))) (.cons (.tup (.cons (.cst (.str "u")) .nil)) .nil))))))) (.call 103 (.cons (.var 0) (.cons (.cst (.int 6)) .nil))))) (.cons (.app 2 (.tup (.cons (.idx (.var 3) (.var 4)) (.cons (.var 5) .nil)))) .nil))
def gnEnv (m : Int) (g : Gr) (a b : Option RV) : MEnv := [some (.ref 0), some (.dat (.int m)), some (.olst (g.map leafD)), some (.dat (.list (gNames.map .str))), a, b]
theorem worth_at (j : Int) (h0 : 0 ≤ j) (h1 : j < 6) : ∃ ws ∈ gWorths, idxD (.list [tS ["0", "1"], tS ["no", "yes"], tS ["x", "y", "z"], tS ["0", "1"], tS ["2a", "b"], tS ["u"]]) (.int j) = some (tS ws) := by
  obtain ⟨n, rfl⟩ := Int.eq_ofNat_of_zero_le h0
  have hn : n < 6 := by omega
  match n, hn with
  | 0, _ => exact ⟨["0", "1"], .head _, rfl⟩
  | 1, _ => exact ⟨["no", "yes"], .tail _ (.head _), rfl⟩
  | 2, _ => exact ⟨["x", "y", "z"], .tail _ (.tail _ (.head _)), rfl⟩
  | 3, _ => exact ⟨["0", "1"], .head _, rfl⟩
  | 4, _ => exact ⟨["2a", "b"], .tail _ (.tail _ (.tail _ (.tail _ (.head _)))), rfl⟩
  | 5, _ => exact ⟨["u"], .tail _ (.tail _ (.tail _ (.tail _ (.tail _ (.head _))))), rfl⟩
theorem name_at (n : Nat) (hn : n < 5) : ∃ s, idxD (.list (gNames.map .str)) (.int n) = some (.str s) ∧ gNames.take (n + 1) = gNames.take n ++ [s] := by
  match n, hn with
  | 0, _ => exact ⟨_, rfl, rfl⟩
  | 1, _ => exact ⟨_, rfl, rfl⟩
  | 2, _ => exact ⟨_, rfl, rfl⟩
  | 3, _ => exact ⟨_, rfl, rfl⟩
  | 4, _ => exact ⟨_, rfl, rfl⟩
theorem gnBody_ev (h : P 103 = some Fn.x_law_next) (k : Nat) (m : Int) (g : Gr) (hg : goodG g) (hl : g.length < 5) (b : Option RV) (is : List Int) :
    ∃ g' b' js, evSs (CF P sub (k + 1)) gnBody (gnEnv m g (some (.dat (.int g.length))) b) [.lst (iL is)] = .next (gnEnv m g' (some (.dat (.int g.length))) b') [.lst (iL js)] ∧ goodG g' ∧ g'.length = g.length + 1 := by
  obtain ⟨j, js, e, h1, h2⟩ := c_nx (sub := sub) h k 6 is (by decide)
  obtain ⟨ws, hw, e2⟩ := worth_at j h1 h2
  obtain ⟨s, e3, e4⟩ := name_at g.length hl
  have hap : appD (leafD (s, ws)) (.list (g.map leafD)) = some (.list ((g ++ [(s, ws)]).map leafD)) := by
    show (if big ((g.map leafD).length + 1) then some (PyData.list (g.map leafD ++ [leafD (s, ws)])) else none) = _
    have hbg : big ((g.map leafD).length + 1) = true := decide_eq_true (by rw [List.length_map]; omega)
    rw [hbg]
    simp
  refine ⟨g ++ [(s, ws)], some (.dat (tS ws)), js, ?_, ⟨?_, ?_⟩, by simp⟩
  · have e2' : idxD (.list [.tuple [.str "0", .str "1"], .tuple [.str "no", .str "yes"], .tuple [.str "x", .str "y", .str "z"], .tuple [.str "0", .str "1"], .tuple [.str "2a", .str "b"], .tuple [.str "u"]]) (.int j) = some (tS ws) := e2
    have hap' : appD (.tuple [.str s, tS ws]) (.list (g.map leafD)) = some (.list ((g ++ [(s, ws)]).map leafD)) := hap
    simp only [gnEnv]
    generalize gNames.map PyData.str = nm at e3 ⊢
    generalize (g ++ [(s, ws)]).map leafD = gl at hap' ⊢
    simp [gnBody, RV.passes, e, big, e2', bindT, lstAt, upR, e3, hap']
  · rw [List.map_append, hg.1, List.length_append]
    exact e4.symm
  · intro p hp
    rcases List.mem_append.mp hp with hp | hp
    · exact hg.2 p hp
    · rw [List.mem_singleton.mp hp]; exact hw
/-- a loop whose turns are counted -/
theorem forB_idx {C : CallF} {t : Tg} {body : Ss} : ∀ (xs : List PyData) (I : Nat → MEnv → MH → Prop) (env : MEnv) (mh : MH), I 0 env mh →
    (∀ i x, xs[i]? = some x → ∀ env mh, I i env mh → ∃ env', bindT t x env = some env' ∧ ∃ env2 mh2, evSs C body env' mh = .next env2 mh2 ∧ I (i + 1) env2 mh2) →
    ∃ env' mh', forB C t body xs env mh = .next env' mh' ∧ I xs.length env' mh'
  | [], I, env, mh, hI, _ => ⟨env, mh, rfl, hI⟩
  | x :: xs, I, env, mh, hI, h => by
    obtain ⟨env', hb, env2, mh2, e, hI2⟩ := h 0 x rfl env mh hI
    obtain ⟨env3, mh3, e3, hI3⟩ := forB_idx (C := C) (t := t) (body := body) xs (fun i => I (i + 1)) env2 mh2 hI2 fun i y hy => h (i + 1) y (by simpa using hy)
    refine ⟨env3, mh3, ?_, hI3⟩
    show (match bindT t x env with
      | some env' => (evSs C body env' mh).turn (forL t (fun env mh => evSs C body env mh) xs)
      | none => .stuck) = _
    rw [hb]
    show (evSs C body env' mh).turn _ = _
    rw [e]
    exact e3
theorem rngD_at (n i : Nat) (x : PyData) (h : (rngD 0 n)[i]? = some x) : i < n ∧ x = .int i := by
  rw [rngD_map, List.getElem?_map] at h
  by_cases hi : i < n
  · rw [List.getElem?_range hi] at h
    refine ⟨hi, ?_⟩
    have := Option.some.inj h
    rw [← this]; simp
  · rw [List.getElem?_eq_none (by rw [List.length_range]; omega)] at h
    cases h
theorem rngD_len (lo : Int) (n : Nat) : (rngD lo n).length = n := by rw [rngD_map, List.length_map, List.length_range]
theorem gn_loop (h : P 103 = some Fn.x_law_next) (k n : Nat) (hn : n ≤ 5) (m : Int) (a b : Option RV) (is : List Int) :
    ∃ g a' b' js, forB (CF P sub (k + 1)) (.nm 4) gnBody (rngD 0 n) (gnEnv m [] a b) [.lst (iL is)] = .next (gnEnv m g a' b') [.lst (iL js)] ∧ goodG g ∧ g.length = n := by
  obtain ⟨env', mh', e, g, a', b', js, rfl, rfl, hg, hl⟩ := forB_idx (C := CF P sub (k + 1)) (t := .nm 4) (body := gnBody) (rngD 0 n) (fun i env mh => ∃ g a b js, env = gnEnv m g a b ∧ mh = [.lst (iL js)] ∧ goodG g ∧ g.length = i) (gnEnv m [] a b) [.lst (iL is)] ⟨[], a, b, is, rfl, rfl, ⟨rfl, fun p hp => by cases hp⟩, rfl⟩ (by
    rintro i x hx env mh ⟨g, a, b, js, rfl, rfl, hg, rfl⟩
    obtain ⟨hi, rfl⟩ := rngD_at n _ x hx
    obtain ⟨g', b', js', e, hg', hl'⟩ := gnBody_ev (sub := sub) h k m g hg (by omega) b js
    exact ⟨gnEnv m g (some (.dat (.int g.length))) b, rfl, _, _, e, g', _, b', js', rfl, rfl, hg', hl'⟩)
  rw [rngD_len] at hl
  exact ⟨g, a', b', js, e, hg, hl⟩
theorem c_ground (h0 : P 50 = some Fn.x_law_ground) (h : P 103 = some Fn.x_law_next) (k : Nat) (m : Int) (hm : 2 ≤ m ∧ m ≤ 5) (is : List Int) :
    ∃ g js, (CF P sub (k + 2)).call 50 [.ref 0, .dat (.int m)] [.lst (iL is)] = .ok (.dat (gD g)) [.lst (iL js)] ∧ goodG g ∧ 1 ≤ g.length ∧ (g.length : Int) ≤ m := by
  obtain ⟨j1, js1, e1, h1, h1'⟩ := c_nx (sub := sub) h k 9 is (by decide)
  obtain ⟨j2, js2, e2, h2, h2'⟩ := c_nx (sub := sub) h k (m - 1) js1 (by omega)
  have hb : ∃ b : Int, (b = 0 ∨ b = 1) ∧ intD (.bool (decide (0 < j1))) = some (.int b) := by
    cases decide (0 < j1) with
    | false => exact ⟨0, .inl rfl, rfl⟩
    | true => exact ⟨1, .inr rfl, rfl⟩
  obtain ⟨b, hb, e3⟩ := hb
  obtain ⟨n, hn⟩ := Int.eq_ofNat_of_zero_le (show 0 ≤ 1 + b + j2 by omega)
  have g1 : cmpD .Gt (.int j1) (.int 0) = some (decide (0 < j1)) := cmp_gt_int _ _
  obtain ⟨g, a', b', js, e4, hg, hl⟩ := gn_loop (sub := sub) h k n (by omega) m none none js2
  have hs : binD .Sub (.int m) (.int 1) = some (.int (m - 1)) := rfl
  have hi : ∀ env mh, evItF (CF P sub (k + 1)) (.rng1 (.bin .Add (.bin .Add (.cst (.int 1)) (.blt .int (.cons (.cmp .Gt (.call 103 (.cons (.var 0) (.cons (.cst (.int 9)) .nil))) (.cst (.int 0))) .nil))) (.call 103 (.cons (.var 0) (.cons (.bin .Sub (.var 1) (.cst (.int 1))) .nil))))) env mh = evIt (CF P sub (k + 1)) (.rng1 (.bin .Add (.bin .Add (.cst (.int 1)) (.blt .int (.cons (.cmp .Gt (.call 103 (.cons (.var 0) (.cons (.cst (.int 9)) .nil))) (.cst (.int 0))) .nil))) (.call 103 (.cons (.var 0) (.cons (.bin .Sub (.var 1) (.cst (.int 1))) .nil))))) env mh := fun _ _ => rfl
  refine ⟨g, js, ?_, hg, by omega, by omega⟩
  rw [cf_succ h0]
  unfold gnBody gnEnv gNames at e4
  simp only [List.map_cons, List.map_nil] at e4
  have hn1 : (-16777216 : Int) ≤ n := by omega
  have hn2 : (n : Int) ≤ 16777216 := by omega
  simp [runF, Fn.x_law_ground, RV.passes, freshV, isFresh, big, setN, bindT, hi, evIt, e1, g1, bltD, un, e3, hs, e2, bAdd, hn, hn1, hn2, e4, tupD, gD]
end Mn
end
section
set_option linter.all false
set_option autoImplicit false
set_option maxRecDepth 100000
namespace Mn
open PySem
variable {P : Nat → Option FDef} {sub : Nat → Nat → Option Bool}
theorem ev_comp_gen {C : CallF} {elt c : E} {tg : Tg} {it : It} {own : List Nat} {env : MEnv} {mh mh1 mh2 : MH} {xs ds : List PyData} (hi : evIt C it env mh = .ok xs mh1) (hb : big xs.length = true) (h : compL (cmpTurn C elt tg c own env) xs mh1 [] = .ok ds mh2) :
    (evP C (.comp elt tg it c own)).1 env mh = .ok (.dat (.list ds)) mh2 := by
  show ((evIt C it env mh).bind fun xs mh => if big xs.length then noExc ((compL (cmpTurn C elt tg c own env) xs mh []).bind fun ds mh => .ok (RV.dat (.list ds)) mh) else .stuck) = _
  rw [hi]
  show (if big xs.length then noExc ((compL (cmpTurn C elt tg c own env) xs mh1 []).bind fun ds mh => .ok (RV.dat (.list ds)) mh) else .stuck) = _
  rw [if_pos hb, h]
  rfl
/-- a state of a ground -/
def stF : Gr → List Str → Prop
  | [], [] => True
  | p :: g, s :: ss => s ∈ p.2 ∧ stF g ss
  | _, _ => False
/-- a comprehension whose turns draw -/
theorem compL_draw {turn : PyData → MH → Out (Option PyData)} : ∀ (g : Gr), (∀ p ∈ g, ∀ is, ∃ s js, turn (leafD p) [.lst (iL is)] = .ok (some (.str s)) [.lst (iL js)] ∧ s ∈ p.2) → ∀ (is : List Int) (acc : List PyData),
    ∃ (ss : List Str) (js : List Int), compL turn (g.map leafD) [.lst (iL is)] acc = .ok (acc ++ ss.map .str) [.lst (iL js)] ∧ stF g ss
  | [], _, is, acc => ⟨[], is, by simp [compL], trivial⟩
  | x :: xs, ht, is, acc => by
    obtain ⟨s, js, e, hr⟩ := ht x List.mem_cons_self is
    obtain ⟨ss, js2, e2, hr2⟩ := compL_draw (turn := turn) xs (fun p hp => ht p (List.mem_cons_of_mem _ hp)) js (acc ++ [.str s])
    refine ⟨s :: ss, js2, ?_, hr, hr2⟩
    rw [List.map_cons]
    unfold compL
    rw [e]
    show compL turn (xs.map leafD) [.lst (iL js)] (acc ++ [.str s]) = _
    rw [e2]
    simp
theorem tS_at (ws : List Str) (j : Int) (h : 0 ≤ j ∧ j < ws.length) : ∃ s ∈ ws, idxD (tS ws) (.int j) = some (.str s) := by
  obtain ⟨n, rfl⟩ := Int.eq_ofNat_of_zero_le h.1
  have hn : n < ws.length := by omega
  refine ⟨ws[n], List.getElem_mem _, ?_⟩
  show atD (ws.map .str) (n : Int) = _
  rw [atD_nat, List.getElem?_map, List.getElem?_eq_getElem hn]; rfl
theorem lenD_tS (ws : List Str) : lenD (tS ws) = some (.int ws.length) := by simp [tS, lenD]
theorem goodG_ne {g : Gr} (hg : goodG g) : ∀ p ∈ g, 0 < p.2.length := fun p hp => by
  have : ∀ ws ∈ gWorths, 0 < ws.length := by decide
  exact this _ (hg.2 p hp)
theorem c_state (h0 : P 143 = some Fn.x_law_state) (h : P 103 = some Fn.x_law_next) (k : Nat) (g : Gr) (hg : ∀ p ∈ g, 0 < p.2.length) (hb : big g.length = true) (is : List Int) :
    ∃ ss js, (CF P sub (k + 2)).call 143 [.ref 0, .dat (gD g)] [.lst (iL is)] = .ok (.dat (tS ss)) [.lst (iL js)] ∧ stF g ss := by
  obtain ⟨ss, js, e, hst⟩ := compL_draw (turn := cmpTurn (CF P sub (k + 1)) (.idx (.idx (.var 2) (.cst (.int 1))) (.call 103 (.cons (.var 0) (.cons (.blt .len (.cons (.idx (.var 2) (.cst (.int 1))) .nil)) .nil)))) (.nm 2) (.cst (.bool true)) [2] [some (.ref 0), some (.dat (gD g)), none]) g (by
    intro p hp is
    obtain ⟨j, js, e, h1, h2⟩ := c_nx (sub := sub) h k (p.2.length : Int) is (by have := hg p hp; omega)
    obtain ⟨s, hs, e2⟩ := tS_at p.2 j ⟨h1, h2⟩
    have h3 : idxD (leafD p) (.int 1) = some (tS p.2) := rfl
    refine ⟨s, js, ?_, hs⟩
    simp [cmpTurn, bindT, wipeM, h3, bltD, un, lenD_tS, RV.passes, e, e2]) is []
  refine ⟨ss, js, ?_, hst⟩
  rw [cf_succ h0]
  have hcm : (evP (CF P sub (k + 1)) (.comp (.idx (.idx (.var 2) (.cst (.int 1))) (.call 103 (.cons (.var 0) (.cons (.blt .len (.cons (.idx (.var 2) (.cst (.int 1))) .nil)) .nil)))) (.nm 2) (.of (.var 1)) (.cst (.bool true)) [2])).1 [some (.ref 0), some (.dat (gD g)), none] [.lst (iL is)] = .ok (.dat (.list (ss.map .str))) [.lst (iL js)] := by
    have hi : evIt (CF P sub (k + 1)) (.of (.var 1)) [some (.ref 0), some (.dat (gD g)), none] [.lst (iL is)] = .ok (g.map leafD) [.lst (iL is)] := rfl
    exact ev_comp_gen hi (by rw [List.length_map]; exact hb) e
  simp [runF, Fn.x_law_state, RV.passes, hcm, bltD, un, tupD, tS]
end Mn
end
section
set_option linter.all false
set_option autoImplicit false
set_option maxRecDepth 100000
namespace Mn
open PySem
variable {P : Nat → Option FDef} {sub : Nat → Nat → Option Bool}
def pD (e : Str × Str) : PyData := .tuple [.str e.1, .str e.2]
/-- an edit of a ground's first leaves -/
def edF (g g0 : Gr) (es : List (Str × Str)) : Prop := (es.map (·.1)).Sublist (g0.map (·.1)) ∧ ∀ e ∈ es, ∃ p ∈ g, e.1 = p.1 ∧ e.2 ∈ p.2
def edBody : Ss := (.cons (.if_ (.and_ (.cmp .Lt (.blt .len (.cons (.var 3) .nil)) (.var 2)) (.cmp .Eq (.call 103 (.cons (.var 0) (.cons (.cst (.int 2)) .nil))) (.cst (.int 1)))) (.cons (.app 3 (.tup (.cons (.idx (.var 4) (.cst (.int 0))) (.cons (.idx (.idx (.var 4) (.cst (.int 1))) (.call 103 (.cons (.var 0) (.cons (.blt .len (.cons (.idx (.var 4) (.cst (.int 1))) .nil)) .nil)))) .nil)))) .nil) .nil) .nil)
def edEnv (g : Gr) (m : Int) (es : List (Str × Str)) (a : Option RV) : MEnv := [some (.ref 0), some (.dat (gD g)), some (.dat (.int m)), some (.olst (es.map pD)), a]
theorem edBody_ev (h : P 103 = some Fn.x_law_next) (k : Nat) (g : Gr) (m : Int) (es : List (Str × Str)) (p : Str × List Str) (hp : 0 < p.2.length) (he : es.length < 1000) (is : List Int) :
    ∃ es' js, evSs (CF P sub (k + 1)) edBody (edEnv g m es (some (.dat (leafD p)))) [.lst (iL is)] = .next (edEnv g m es' (some (.dat (leafD p)))) [.lst (iL js)] ∧ (es' = es ∨ ∃ s ∈ p.2, es' = es ++ [(p.1, s)]) := by
  have g1 : cmpD .Lt (.int (es.length : Int)) (.int m) = some (decide ((es.length : Int) < m)) := cmp_lt_int _ _
  have hlen : lenD (.list (es.map pD)) = some (.int (es.length : Int)) := by simp [lenD]
  have h3 : idxD (leafD p) (.int 1) = some (tS p.2) := rfl
  have h4 : idxD (leafD p) (.int 0) = some (.str p.1) := rfl
  cases e1 : decide ((es.length : Int) < m) with
  | false =>
    refine ⟨es, is, ?_, .inl rfl⟩
    simp [edBody, edEnv, bltD, un, hlen, g1, e1, -decide_eq_true_eq, -decide_eq_false_iff_not]
  | true =>
    obtain ⟨j, js, e, h1, h2⟩ := c_nx (sub := sub) h k 2 is (by decide)
    have g2 : cmpD .Eq (.int j) (.int 1) = some (decide (j = 1)) := cmp_eq_int _ _
    cases e2 : decide (j = 1) with
    | false =>
      refine ⟨es, js, ?_, .inl rfl⟩
      simp [edBody, edEnv, bltD, un, hlen, g1, e1, RV.passes, e, g2, e2, -decide_eq_true_eq, -decide_eq_false_iff_not]
    | true =>
      obtain ⟨j2, js2, e3, h5, h6⟩ := c_nx (sub := sub) h k (p.2.length : Int) js (by omega)
      obtain ⟨s, hs, e4⟩ := tS_at p.2 j2 ⟨h5, h6⟩
      have hap : appD (.tuple [.str p.1, .str s]) (.list (es.map pD)) = some (.list ((es ++ [(p.1, s)]).map pD)) := by
        have hbg : big ((es.map pD).length + 1) = true := decide_eq_true (by rw [List.length_map]; omega)
        show (if big ((es.map pD).length + 1) then some (PyData.list (es.map pD ++ [pD (p.1, s)])) else none) = _
        rw [hbg]
        simp
      refine ⟨es ++ [(p.1, s)], js2, ?_, .inr ⟨s, hs, rfl⟩⟩
      simp only [edEnv]
      generalize (es ++ [(p.1, s)]).map pD = nl at hap ⊢
      simp [edBody, bltD, un, hlen, g1, e1, RV.passes, e, g2, e2, h3, h4, lenD_tS, e3, e4, big, lstAt, upR, hap, -decide_eq_true_eq, -decide_eq_false_iff_not]
theorem c_edit (h0 : P 33 = some Fn.x_law_edit) (h : P 103 = some Fn.x_law_next) (k : Nat) (g : Gr) (m : Int) (hg : ∀ p ∈ g, 0 < p.2.length) (hb : g.length < 1000) (is : List Int) :
    ∃ es js, (CF P sub (k + 2)).call 33 [.ref 0, .dat (gD g), .dat (.int m)] [.lst (iL is)] = .ok (.dat (.tuple (es.map pD))) [.lst (iL js)] ∧ edF g g es := by
  obtain ⟨env', mh', e, es, a, js, rfl, rfl, he, _⟩ := forB_idx (C := CF P sub (k + 1)) (t := .nm 4) (body := edBody) (g.map leafD) (fun i env mh => ∃ es a js, env = edEnv g m es a ∧ mh = [.lst (iL js)] ∧ edF g (g.take i) es ∧ es.length ≤ i) (edEnv g m [] none) [.lst (iL is)] ⟨[], none, is, rfl, rfl, ⟨.slnil, fun e he => by cases he⟩, Nat.le_refl _⟩ (by
    rintro i x hx env mh ⟨es, a, js, rfl, rfl, hf, hl⟩
    rw [List.getElem?_map] at hx
    cases hgi : g[i]? with
    | none => rw [hgi] at hx; cases hx
    | some p =>
      rw [hgi] at hx
      have hx := Option.some.inj hx
      subst hx
      have hi : i < g.length := by
        rcases Nat.lt_or_ge i g.length with h | h
        · exact h
        · rw [List.getElem?_eq_none h] at hgi; cases hgi
      have hp : p ∈ g := List.mem_of_getElem? hgi
      obtain ⟨es', js', e, hor⟩ := edBody_ev (sub := sub) h k g m es p (hg p hp) (by omega) js
      have ht : g.take (i + 1) = g.take i ++ [p] := by rw [List.take_succ, hgi]; rfl
      refine ⟨edEnv g m es (some (.dat (leafD p))), rfl, _, _, e, es', _, js', rfl, rfl, ?_, ?_⟩
      · rw [ht]
        rcases hor with rfl | ⟨s, hs, rfl⟩
        · refine ⟨?_, hf.2⟩
          rw [List.map_append]
          exact hf.1.trans (List.sublist_append_left _ _)
        · refine ⟨?_, fun e he => ?_⟩
          · rw [List.map_append, List.map_append]
            exact List.Sublist.append hf.1 (List.Sublist.refl _)
          · rcases List.mem_append.mp he with he | he
            · exact hf.2 e he
            · rw [List.mem_singleton.mp he]; exact ⟨p, hp, rfl, hs⟩
      · rcases hor with rfl | ⟨s, hs, rfl⟩
        · omega
        · rw [List.length_append]; simp; exact hl)
  rw [List.length_map, List.take_length] at he
  refine ⟨es, js, ?_, he⟩
  rw [cf_succ h0]
  have hi : ∀ mh, evItF (CF P sub (k + 1)) (.of (.var 1)) [some (.ref 0), some (.dat (gD g)), some (.dat (.int m)), some (.olst []), none] mh = .ok (g.map leafD) mh := fun _ => rfl
  unfold edBody edEnv at e
  simp only [List.map_nil] at e
  simp [runF, Fn.x_law_edit, RV.passes, freshV, isFresh, big, setN, hi, e, bltD, un, tupD]
end Mn
end
section
set_option linter.all false
set_option autoImplicit false
set_option maxRecDepth 100000
namespace Mn
open PySem
/-! ### what is drawn is right -/
theorem leaf_ok (s : Str) (hs : s ∈ gNames) (ws : List Str) (hw : ws ∈ gWorths) : leafOk (leafD (s, ws)) = true ∧ okD (leafD (s, ws)) = true := by
  have h : ∀ s ∈ gNames, ∀ ws ∈ gWorths, leafOk (leafD (s, ws)) = true ∧ okD (leafD (s, ws)) = true := by decide
  exact h s hs ws hw
theorem goodG_name {g : Gr} (hg : goodG g) : ∀ p ∈ g, p.1 ∈ gNames := fun p hp => by
  have : p.1 ∈ g.map (·.1) := List.mem_map_of_mem hp
  rw [hg.1] at this
  exact List.mem_of_mem_take this
theorem okA_all : ∀ {xs : List PyData}, (∀ x ∈ xs, okD x = true) → okD.okA xs = true
  | [], _ => rfl
  | x :: xs, h => by
    show (okD x && okD.okA xs) = true
    rw [h x List.mem_cons_self, okA_all fun y hy => h y (List.mem_cons_of_mem _ hy)]
    rfl
theorem goodG_ok {g : Gr} (hg : goodG g) (hl : g.length ≤ 5) : okD (gD g) = true := by
  show (big (g.map leafD).length && okD.okA (g.map leafD)) = true
  rw [okA_all fun x hx => by
    obtain ⟨p, hp, rfl⟩ := List.mem_map.mp hx
    exact (leaf_ok p.1 (goodG_name hg p hp) p.2 (hg.2 p hp)).2]
  rw [Bool.and_true]
  exact decide_eq_true (by rw [List.length_map]; omega)
theorem rise_take (n : Nat) : rise (gNames.take n) = true := by
  match n with
  | 0 => decide
  | 1 => decide
  | 2 => decide
  | 3 => decide
  | 4 => decide
  | n + 5 => 
    have : gNames.take (n + 5) = gNames := by
      apply List.take_of_length_le
      show 5 ≤ n + 5
      omega
    rw [this]; decide
theorem goodG_ground {g : Gr} (hg : goodG g) (h1 : 1 ≤ g.length) (hl : g.length ≤ 5) : isGround (gD g) = true := by
  have e1 : (g.map leafD).all leafOk = true := by
    rw [List.all_eq_true]; intro x hx
    obtain ⟨p, hp, rfl⟩ := List.mem_map.mp hx
    exact (leaf_ok p.1 (goodG_name hg p hp) p.2 (hg.2 p hp)).1
  have e2 : rise (namesOf (g.map leafD)) = true := by rw [names_gD, hg.1]; exact rise_take _
  have e3 : decide ((1 : Int) ≤ ((g.map leafD).length : Int)) = true := decide_eq_true (by rw [List.length_map]; omega)
  have e4 : decide (((g.map leafD).length : Int) ≤ 40) = true := decide_eq_true (by rw [List.length_map]; omega)
  show (decide ((1 : Int) ≤ ((g.map leafD).length : Int)) && (decide (((g.map leafD).length : Int) ≤ 40) && ((g.map leafD).all leafOk && rise (namesOf (g.map leafD))))) = true
  rw [e1, e2, e3, e4]; rfl
theorem stF_row : ∀ {g : Gr} {ss : List Str}, stF g ss → ss.length = g.length ∧ (stateRow (ss.map .str) g).all id = true
  | [], [], _ => ⟨rfl, rfl⟩
  | p :: g, s :: ss, h => by
    obtain ⟨h1, h2⟩ := stF_row h.2
    refine ⟨by simp [h1], ?_⟩
    show ((decide (s ∈ p.2)) && (stateRow (ss.map .str) g).all id) = true
    rw [h2, decide_eq_true h.1]; rfl
theorem stF_state {g : Gr} {ss : List Str} (h : stF g ss) : isStateOf g (tS ss) = true := by
  obtain ⟨h1, h2⟩ := stF_row h
  show (decide (((ss.map PyData.str).length : Int) = (g.length : Int)) && (stateRow (ss.map .str) g).all id) = true
  rw [h2, Bool.and_true]
  exact decide_eq_true (by rw [List.length_map, h1])
theorem rise_of_sub : ∀ {as bs : List Str}, as.Sublist bs → rise bs = true → rise as = true
  | _, _, .slnil, h => h
  | as, _, .cons b hs, h => rise_of_sub hs (rise_tail h)
  | _, _, .cons_cons b (l₁ := []) hs, h => rfl
  | _, _, .cons_cons b (l₁ := a :: as) hs, h => by
    have h1 := rise_of_sub hs (rise_tail h)
    have h2 := rise_lt _ b h a (hs.subset List.mem_cons_self)
    show (decide (b.cps.toList < a.cps.toList) && rise (a :: as)) = true
    rw [h1, decide_eq_true h2]; rfl
theorem look_mem : ∀ {g : Gr} {p : Str × List Str}, (g.map (·.1)).Nodup → p ∈ g → look g p.1 = some p.2
  | q :: g, p, hn, hp => by
    rw [List.map_cons, List.nodup_cons] at hn
    show (if q.1 = p.1 then some q.2 else look g p.1) = _
    rcases List.mem_cons.mp hp with rfl | hp
    · rw [if_pos rfl]
    · rw [if_neg fun e => hn.1 (by rw [e]; exact List.mem_map_of_mem hp), look_mem hn.2 hp]
theorem names_pD : ∀ es : List (Str × Str), namesOf (es.map pD) = es.map (·.1)
  | [] => rfl
  | e :: es => by
    show e.1 :: namesOf (es.map pD) = _
    rw [names_pD es]; rfl
theorem edF_edit {g : Gr} {es : List (Str × Str)} (h : edF g g es) (hg : isGround (gD g) = true) : isEditOf g (.tuple (es.map pD)) = true := by
  have hn := ground_nodup hg
  have h' : (decide ((1 : Int) ≤ ((g.map leafD).length : Int)) && (decide (((g.map leafD).length : Int) ≤ 40) && ((g.map leafD).all leafOk && rise (namesOf (g.map leafD))))) = true := hg
  simp only [Bool.and_eq_true] at h'
  have e1 : (es.map pD).all (editLeaf g) = true := by
    rw [List.all_eq_true]; intro x hx
    obtain ⟨e, he, rfl⟩ := List.mem_map.mp hx
    obtain ⟨p, hp, h1, h2⟩ := h.2 e he
    show (match look g e.1 with
      | some ws => isWord (.str e.2) ws
      | none => false) = true
    rw [h1, look_mem hn hp]
    exact decide_eq_true h2
  have e2 : rise (namesOf (es.map pD)) = true := by
    rw [names_pD]
    refine rise_of_sub h.1 ?_
    rw [← names_gD]; exact h'.2.2.2
  show ((es.map pD).all (editLeaf g) && rise (namesOf (es.map pD))) = true
  rw [e1, e2]; rfl
end Mn
end
section
set_option linter.all false
set_option autoImplicit false
set_option maxRecDepth 100000
namespace Mn
open PySem
variable {P : Nat → Option FDef} {sub : Nat → Nat → Option Bool}
theorem stF_okD : ∀ {g : Gr} {ss : List Str}, goodG g → stF g ss → ∀ s ∈ ss, big s.length = true := by
  intro g ss hg
  have hw : ∀ ws ∈ gWorths, ∀ s ∈ ws, big s.length = true := by decide
  have h : ∀ (g : Gr) (ss : List Str), (∀ p ∈ g, p.2 ∈ gWorths) → stF g ss → ∀ s ∈ ss, big s.length = true := by
    intro g
    induction g with
    | nil => intro ss _ h; cases ss with
      | nil => intro s hs; cases hs
      | cons a b => exact h.elim
    | cons p g ih =>
      intro ss hp h
      cases ss with
      | nil => exact h.elim
      | cons a b =>
        intro s hs
        rcases List.mem_cons.mp hs with rfl | hs
        · exact hw _ (hp p List.mem_cons_self) _ h.1
        · exact ih b (fun q hq => hp q (List.mem_cons_of_mem _ hq)) h.2 s hs
  exact h g ss hg.2
theorem okD_tS {ss : List Str} (h : ∀ s ∈ ss, big s.length = true) (hl : big ss.length = true) : okD (tS ss) = true := by
  show (big (ss.map PyData.str).length && okD.okA (ss.map .str)) = true
  rw [List.length_map, hl, okA_all fun x hx => by
    obtain ⟨s, hs, rfl⟩ := List.mem_map.mp hx
    exact h s hs]
  rfl
/-! ### the wide ground -/
def sN (i : Nat) : Str := toString (100 + (i : Int))
def wideP (i : Nat) : Str × List Str := ("n" ++ sN i, ["0", "1"])
theorem sN_ok : ∀ i : Nat, i < 100 → big (("n" : Str).length + (sN i).length) = true ∧ decide ((100 + (i : Int)).natAbs.log2 < 1920) = true := by decide +kernel
def wideG (n : Nat) : Gr := (List.range n).map wideP
theorem c_wide (h : P 165 = some Fn.x_law_wide) (k n : Nat) (hn : n ≤ 100) (mh : MH) : (CF P sub (k + 1)).call 165 [.dat (.int n)] mh = .ok (.dat (gD (wideG n))) mh := by
  rw [cf_succ h]
  have hcm : (evP (CF P sub k) (.comp (.tup (.cons (.bin .Add (.cst (.str "n")) (.blt .str (.cons (.bin .Add (.cst (.int 100)) (.var 1)) .nil))) (.cons (.tup (.cons (.cst (.str "0")) (.cons (.cst (.str "1")) .nil))) .nil))) (.nm 1) (.rng1 (.var 0)) (.cst (.bool true)) [1])).1 [some (.dat (.int n)), none] mh = .ok (.dat (.list ((wideG n).map leafD))) mh := by
    have h2 := ev_map (C := CF P sub k) (elt := .tup (.cons (.bin .Add (.cst (.str "n")) (.blt .str (.cons (.bin .Add (.cst (.int 100)) (.var 1)) .nil))) (.cons (.tup (.cons (.cst (.str "0")) (.cons (.cst (.str "1")) .nil))) .nil))) (tg := .nm 1) (it := .rng1 (.var 0)) (c := .cst (.bool true)) (own := [1]) (env := [some (.dat (.int n)), none]) (mh := mh) (mh1 := mh) (xs := rngD 0 n) (f := fun d => match d with | .int i => leafD (wideP i.toNat) | _ => .none)
      (by
        have h1 : (-16777216 : Int) ≤ n := by omega
        have h2 : (n : Int) ≤ 16777216 := by omega
        simp [evIt, h1, h2])
      (by rw [rngD_len]; exact decide_eq_true (by omega)) (fun x hx => by
        rw [rngD_map] at hx
        obtain ⟨i, hi, rfl⟩ := List.mem_map.mp hx
        have hi := List.mem_range.mp hi
        have e0 : (0 + (i : Int)) = i := by omega
        have e1 : binD .Add (.int 100) (.int (i : Int)) = some (.int (100 + (i : Int))) := rfl
        obtain ⟨b1, b2⟩ := sN_ok i (by omega)
        have e2 : strD (.int (100 + (i : Int))) = some (.str (sN i)) := by
          show (if decide ((100 + (i : Int)).natAbs.log2 < 1920) then some (PyData.str (sN i)) else none) = _
          rw [b2]; rfl
        have e3 : binD .Add (.str "n") (.str (sN i)) = some (.str (wideP i).1) := by
          show (if big (("n" : Str).length + (sN i).length) then some (PyData.str ("n" ++ sN i)) else none) = _
          rw [b1]; rfl
        rw [e0]
        simp [cmpTurn, bindT, wipeM, e1, bltD, un, e2, e3, big]
        rfl)
    rw [h2, rngD_map, List.map_map]
    congr 2
    unfold wideG
    rw [List.map_map]
    congr 1
    apply List.map_congr_left
    intro i _
    show leafD (wideP (0 + (i : Int)).toNat) = leafD (wideP i)
    congr 2
    omega
  simp [runF, Fn.x_law_wide, RV.passes, hcm, bltD, un, tupD, gD]
end Mn
end
section
set_option linter.all false
set_option autoImplicit false
set_option maxRecDepth 100000
namespace Mn
open PySem
structure RightG (g : Gr) : Prop where
  ok : okD (gD g) = true
  gr : isGround (gD g) = true
theorem ground_len {g : Gr} (h : isGround (gD g) = true) : 1 ≤ g.length ∧ g.length ≤ 40 := by
  have h' : (decide ((1 : Int) ≤ ((g.map leafD).length : Int)) && (decide (((g.map leafD).length : Int) ≤ 40) && ((g.map leafD).all leafOk && rise (namesOf (g.map leafD))))) = true := h
  simp only [Bool.and_eq_true] at h'
  have h1 := of_decide_eq_true h'.1
  have h2 := of_decide_eq_true h'.2.1
  rw [List.length_map] at h1 h2
  omega
theorem ground_words {g : Gr} (h : isGround (gD g) = true) : ∀ p ∈ g, ∃ s r, p.2 = s :: r := fun p hp => by
  have h' : (decide ((1 : Int) ≤ ((g.map leafD).length : Int)) && (decide (((g.map leafD).length : Int) ≤ 40) && ((g.map leafD).all leafOk && rise (namesOf (g.map leafD))))) = true := h
  simp only [Bool.and_eq_true] at h'
  have h2 := List.all_eq_true.mp h'.2.2.1 (leafD p) (List.mem_map_of_mem hp)
  have h3 : (isName (.str p.1) && (decide ((1 : Int) ≤ ((p.2.map PyData.str).length : Int)) && (decide (((p.2.map PyData.str).length : Int) ≤ 8) && ((p.2.map PyData.str).all isWorth && rise (strsOf (p.2.map .str)))))) = true := h2
  simp only [Bool.and_eq_true] at h3
  have h4 := of_decide_eq_true h3.2.1
  rw [List.length_map] at h4
  cases e : p.2 with
  | nil => rw [e] at h4; simp at h4
  | cons s r => exact ⟨s, r, rfl⟩
theorem leaf_okD {g : Gr} (h : okD (gD g) = true) {p : Str × List Str} (hp : p ∈ g) : big p.1.length = true ∧ ∀ s ∈ p.2, big s.length = true := by
  have h' : (big (g.map leafD).length && okD.okA (g.map leafD)) = true := h
  rw [Bool.and_eq_true] at h'
  have h2 : okD (leafD p) = true := okA_mem h'.2 (List.mem_map_of_mem hp)
  have h3 : (big 2 && (big p.1.length && ((big (p.2.map PyData.str).length && okD.okA (p.2.map .str)) && true))) = true := h2
  simp only [Bool.and_eq_true] at h3
  exact ⟨h3.2.1, fun s hs => okA_mem h3.2.2.1.2 (List.mem_map_of_mem (f := PyData.str) hs)⟩
theorem okD_tup {xs : List PyData} (hl : xs.length ≤ 1000) (h : ∀ x ∈ xs, okD x = true) : okD (.tuple xs) = true := by
  show (big xs.length && okD.okA xs) = true
  rw [okA_all h, Bool.and_true]
  exact decide_eq_true (by omega)
theorem evS_try {C : CallF} (body : Ss) (c : Nat) (i : Option Nat) (suite : Ss) (env : MEnv) (mh : MH) : evS C (.try_ body c i suite) env mh = (match evSs C body env mh with
    | .exc x env' mh' => (match C.sub x.c c with
      | some true => (match i with
        | some k => if k < env'.length then (evSs C suite (env'.set k (some (.xcp x.c x.arg))) mh').unX k else .stuck
        | none => (match evSs C suite env' mh' with
          | .exc _ _ _ => .stuck
          | o => o))
      | some false => .exc x env' mh'
      | none => .stuck)
    | o => o) := (rfl)
theorem forB_nil {C : CallF} (t : Tg) (body : Ss) (env : MEnv) (mh : MH) : forB C t body [] env mh = .next env mh := (rfl)
theorem forB_cons {C : CallF} (t : Tg) (body : Ss) (x : PyData) (xs : List PyData) (env : MEnv) (mh : MH) : forB C t body (x :: xs) env mh = (match bindT t x env with
    | some env' => SO.turn (forB C t body xs) (evSs C body env' mh)
    | none => .stuck) := (rfl)
@[simp] theorem turn_next (k : MEnv → MH → SO) (env : MEnv) (mh : MH) : SO.turn k (.next env mh) = k env mh := rfl
@[simp] theorem turn_ret (k : MEnv → MH → SO) (r : RV) (mh : MH) : SO.turn k (.ret r mh) = .ret r mh := rfl
@[simp] theorem unX_next (k : Nat) (e : MEnv) (m : MH) : SO.unX k (.next e m) = if noX (e.set k none) then .next (e.set k none) m else .stuck := rfl
theorem eqD_str (i j : Str) : eqD (.str i) (.str j) = some (decide (i = j)) := by
  unfold eqD
  rw [depOk_str, depOk_str]
  show some (PyData.eqv (.str i) (.str j)) = _
  rw [eqv_str]
end Mn
end
section
set_option linter.all false
set_option autoImplicit false
set_option maxRecDepth 100000
namespace Mn
open PySem
variable {P : Nat → Option FDef} {sub : Nat → Nat → Option Bool}
/-! ### rows of data in rising order -/
def riseD : List PyData → Bool
  | a :: b :: r => PySem.W.dataLt a b && riseD (b :: r)
  | _ => true
def okLt (xs : List PyData) : Prop := ∀ x ∈ xs, ∀ y ∈ xs, ltD x y = some (PySem.W.dataLt x y)
theorem riseD_range : ∀ xs : List PyData, riseD xs = (List.range (xs.length - 1)).all fun i => PySem.W.dataLt (xs.getD i .none) (xs.getD (i + 1) .none)
  | [] => rfl
  | [_] => rfl
  | a :: b :: r => by
    rw [riseD, riseD_range (b :: r)]
    show _ = (List.range (r.length + 1)).all _
    rw [List.range_succ_eq_map, List.all_cons, List.all_map]
    rfl
def riseRowD (xs : List PyData) : PyData := .list ((List.range (xs.length - 1)).map fun i => PyData.bool (PySem.W.dataLt (xs.getD i .none) (xs.getD (i + 1) .none)))
theorem allD_riseRowD (xs : List PyData) : allD (riseRowD xs) = some (.bool (riseD xs)) := by
  rw [riseD_range]; exact all_map _ _
theorem itC_riseD (C : CallF) (xs : List PyData) (hx : okLt xs) (D : PyData) (hD : D = .list xs ∨ D = .tuple xs) (mh : MH) (hb : big xs.length = true) :
    (evP C (.comp (.cmp .Lt (.idx (.var 0) (.bin .Sub (.var 1) (.cst (.int 1)))) (.idx (.var 0) (.var 1))) (.nm 1) (.rng2 (.cst (.int 1)) (.blt .len (.cons (.var 0) .nil))) (.cst (.bool true)) [1])).1 [some (.dat D), none] mh = .ok (.dat (riseRowD xs)) mh := by
  have hlen : lenD D = some (.int xs.length) := by rcases hD with e | e <;> rw [e] <;> simp [lenD]
  have hat : ∀ i : Nat, idxD D (.int i) = xs[i]? := fun i => by rcases hD with e | e <;> rw [e] <;> exact atD_nat _ i
  have hle : (xs.length : Int) ≤ 16777216 := by have := of_decide_eq_true hb; omega
  have h := ev_map (C := C) (elt := .cmp .Lt (.idx (.var 0) (.bin .Sub (.var 1) (.cst (.int 1)))) (.idx (.var 0) (.var 1))) (c := .cst (.bool true)) (tg := .nm 1) (own := [1]) (it := .rng2 (.cst (.int 1)) (.blt .len (.cons (.var 0) .nil))) (env := [some (.dat D), none]) (mh := mh) (mh1 := mh) (xs := (List.range (xs.length - 1)).map fun i : Nat => PyData.int (1 + i)) (f := fun d => match d with | .int j => .bool (PySem.W.dataLt (xs.getD (j.toNat - 1) .none) (xs.getD j.toNat .none)) | _ => .none) (by
      have hr : rngD 1 (xs.length - 1) = (List.range (xs.length - 1)).map fun i : Nat => PyData.int (1 + i) := by
        rw [rngD_map]
      have hc : (-16777216 : Int) ≤ 1 ∧ (1 : Int) ≤ 16777216 ∧ (-16777216 : Int) ≤ xs.length ∧ (xs.length : Int) ≤ 16777216 := by omega
      simp [evIt, bltD, un, hlen, hr, hc])
    (by
      rw [List.length_map, List.length_range]
      exact decide_eq_true (by have := of_decide_eq_true hb; omega)) fun x hx' => by
    obtain ⟨i, hi, rfl⟩ := List.mem_map.mp hx'
    have hi : i < xs.length - 1 := List.mem_range.mp hi
    have h1 : i < xs.length := by omega
    have h2 : i + 1 < xs.length := by omega
    have g1 : idxD D (.int (1 + (i : Int) - 1)) = some (xs.getD i .none) := by
      have : (1 + (i : Int) - 1) = (i : Int) := by omega
      rw [this, hat, List.getD_eq_getElem?_getD, List.getElem?_eq_getElem h1]; rfl
    have g2 : idxD D (.int (1 + (i : Int))) = some (xs.getD (i + 1) .none) := by
      have : (1 + (i : Int)) = ((i + 1 : Nat) : Int) := by omega
      rw [this, hat, List.getD_eq_getElem?_getD, List.getElem?_eq_getElem h2]; rfl
    have e1 : (1 + (i : Int)).toNat = i + 1 := by omega
    have hb1 : binD .Sub (.int (1 + (i : Int))) (.int 1) = some (.int (1 + (i : Int) - 1)) := rfl
    have m1 : xs.getD i .none ∈ xs := by rw [List.getD_eq_getElem?_getD, List.getElem?_eq_getElem h1]; exact List.getElem_mem h1
    have m2 : xs.getD (i + 1) .none ∈ xs := by rw [List.getD_eq_getElem?_getD, List.getElem?_eq_getElem h2]; exact List.getElem_mem h2
    have hl : cmpD .Lt (xs.getD i .none) (xs.getD (i + 1) .none) = some (PySem.W.dataLt (xs.getD i .none) (xs.getD (i + 1) .none)) := hx _ m1 _ m2
    have ef : (match PyData.int (1 + (i : Int)) with | .int j => PyData.bool (PySem.W.dataLt (xs.getD (j.toNat - 1) .none) (xs.getD j.toNat .none)) | _ => .none) = PyData.bool (PySem.W.dataLt (xs.getD i .none) (xs.getD (i + 1) .none)) := by
      show PyData.bool (PySem.W.dataLt (xs.getD ((1 + (i : Int)).toNat - 1) .none) (xs.getD (1 + (i : Int)).toNat .none)) = _
      rw [e1, Nat.add_sub_cancel]
    rw [ef]
    generalize xs.getD i .none = x1 at g1 hl ⊢
    generalize xs.getD (i + 1) .none = x2 at g2 hl ⊢
    simp [cmpTurn, bindT, wipeM, hb1, g1, g2, hl]
  rw [h, List.map_map]
  congr 2
  unfold riseRowD
  congr 1
  apply List.map_congr_left
  intro i _
  have e1 : (1 + (i : Int)).toNat = i + 1 := by omega
  show PyData.bool (PySem.W.dataLt (xs.getD ((1 + (i : Int)).toNat - 1) .none) (xs.getD (1 + (i : Int)).toNat .none)) = _
  rw [e1, Nat.add_sub_cancel]
theorem c_risingD (h : P 280 = some Fn.is_rising) (k : Nat) (xs : List PyData) (hx : okLt xs) (D : PyData) (hD : D = .list xs ∨ D = .tuple xs) (mh : MH) (hb : big xs.length = true) : (CF P sub (k + 1)).call 280 [.dat D] mh = .ok (.dat (.bool (riseD xs))) mh := by
  rw [cf_succ h]
  have h := itC_riseD (CF P sub k) xs hx D hD mh hb
  simp [runF, Fn.is_rising, RV.passes, h, bltD, un, allD_riseRowD]
theorem depOk_pD (e : Str × Str) : depOk (pD e) = true := by simp [pD, depOk, PyData.plain, PyData.depth, PyData.plainAll, PyData.depthAll]
theorem lt_pD (e f : Str × Str) : ltD (pD e) (pD f) = some (PySem.W.dataLt (pD e) (pD f)) := by
  unfold ltD
  rw [depOk_pD, depOk_pD]
  simp [PySem.W.alike, PySem.W.alikeAll, nn, pD]
theorem okLt_pD (es : List (Str × Str)) : okLt (es.map pD) := fun x hx y hy => by
  obtain ⟨e, _, rfl⟩ := List.mem_map.mp hx
  obtain ⟨f, _, rfl⟩ := List.mem_map.mp hy
  exact lt_pD e f
/-! ### one to one -/
def snd2 : PyData → PyData
  | .tuple [_, b] => b
  | _ => .none
def firstsK (xs : List PyData) : List (PyData × PyData) := putL [] (xs.map fun x => (fst2 x, .bool true))
def secondsK (xs : List PyData) : List (PyData × PyData) := putL [] (xs.map fun x => (snd2 x, .bool true))
def oneOne (xs : List PyData) : Bool := decide (((firstsK xs).length : Int) = xs.length) && decide ((xs.length : Int) = (secondsK xs).length)
theorem c_one (h : P 273 = some Fn.is_one_to_one) (k : Nat) (es : List (Str × Str)) (hb : big es.length = true) (mh : MH) : (CF P sub (k + 1)).call 273 [.dat (.tuple (es.map pD))] mh = .ok (.dat (.bool (oneOne (es.map pD)))) mh := by
  rw [cf_succ h]
  have hb' : big (es.map pD).length = true := by rw [List.length_map]; exact hb
  have h1 : ∀ env : MEnv, env[0]? = some (some (.dat (.tuple (es.map pD)))) → 3 < env.length → ∀ mh, (evP (CF P sub k) (.dcomp (.var 2) (.cst (.bool true)) (.cons (.nm 2) (.cons (.nm 3) .nil)) (.of (.var 0)) (.cst (.bool true)) [2, 3])).1 env mh = .ok (.dat (.dict (firstsK (es.map pD)))) mh := fun env h0 hl mh => by
    refine ev_dmap (mh1 := mh) (xs := es.map pD) (f := fun x => (fst2 x, .bool true)) (by simp [evIt, h0, itemsD]) hb' fun x hx => ?_
    obtain ⟨e, _, rfl⟩ := List.mem_map.mp hx
    have l2 : 2 < env.length := by omega
    refine ⟨?_, rfl⟩
    simp [dcmpTurn, bindT, wipeM, pD, fst2, hl, l2]
  have h2 : ∀ env : MEnv, env[0]? = some (some (.dat (.tuple (es.map pD)))) → 3 < env.length → ∀ mh, (evP (CF P sub k) (.dcomp (.var 3) (.cst (.bool true)) (.cons (.nm 2) (.cons (.nm 3) .nil)) (.of (.var 0)) (.cst (.bool true)) [2, 3])).1 env mh = .ok (.dat (.dict (secondsK (es.map pD)))) mh := fun env h0 hl mh => by
    refine ev_dmap (mh1 := mh) (xs := es.map pD) (f := fun x => (snd2 x, .bool true)) (by simp [evIt, h0, itemsD]) hb' fun x hx => ?_
    obtain ⟨e, _, rfl⟩ := List.mem_map.mp hx
    have l2 : 2 < env.length := by omega
    refine ⟨?_, rfl⟩
    simp [dcmpTurn, bindT, wipeM, pD, snd2, hl, l2]
  have e1 := fun mh => h1 [some (.dat (.tuple (es.map pD))), none, none, none, none] rfl (by simp) mh
  have e2 := fun d mh => h2 [some (.dat (.tuple (es.map pD))), some (.dat d), none, none, none] rfl (by simp) mh
  unfold oneOne
  generalize es.map pD = xs at e1 e2 ⊢
  generalize firstsK xs = fk at e1 ⊢
  generalize secondsK xs = sk at e2 ⊢
  have hl1 : lenD (.dict fk) = some (.int fk.length) := rfl
  have hl2 : lenD (.dict sk) = some (.int sk.length) := rfl
  have hc1 : cmpD .Eq (.int (fk.length : Int)) (.int (xs.length : Int)) = some (decide ((fk.length : Int) = xs.length)) := cmp_eq_int _ _
  have hc2 : cmpD .Eq (.int (xs.length : Int)) (.int (sk.length : Int)) = some (decide ((xs.length : Int) = sk.length)) := cmp_eq_int _ _
  generalize decide ((fk.length : Int) = xs.length) = b1 at hc1 ⊢
  generalize decide ((xs.length : Int) = sk.length) = b2 at hc2 ⊢
  cases b1 <;> simp [runF, Fn.is_one_to_one, RV.passes, bindT, e1, e2, bltD, un, lenD_tuple, hl1, hl2, hc1, hc2]
end Mn
end
section
set_option linter.all false
set_option autoImplicit false
set_option maxRecDepth 100000
namespace Mn
open PySem
variable {P : Nat → Option FDef} {sub : Nat → Nat → Option Bool}
structure HasRule (P : Nat → Option FDef) : Prop extends HasGround P where
  wd : P 294 = some Fn.is_word
  oo : P 273 = some Fn.is_one_to_one
  ro : P 281 = some Fn.is_rows_of
  rl : P 283 = some Fn.is_rule_of
def rowOk (fa fb : List Str) : PyData → Bool
  | .tuple [x, y] => isWord x fa && isWord y fb
  | _ => false
def isRowsOf (d : PyData) (fa fb : List Str) : Bool := match d with
  | .tuple xs => xs.all (rowOk fa fb) && (riseD xs && oneOne xs)
  | _ => false
theorem rowOk_shape {fa fb : List Str} {x : PyData} (h : rowOk fa fb x = true) : ∃ a b, x = pD (a, b) ∧ a ∈ fa ∧ b ∈ fb := by
  match x, h with
  | .tuple [u, v], h =>
    have h' : (isWord u fa && isWord v fb) = true := h
    rw [Bool.and_eq_true] at h'
    cases u with
    | str a =>
      cases v with
      | str b => exact ⟨a, b, rfl, of_decide_eq_true h'.1, of_decide_eq_true h'.2⟩
      | _ => simp [isWord] at h'
    | _ => simp [isWord] at h'
theorem rows_shape {fa fb : List Str} : ∀ {xs : List PyData}, xs.all (rowOk fa fb) = true → ∃ es : List (Str × Str), xs = es.map pD ∧ ∀ e ∈ es, e.1 ∈ fa ∧ e.2 ∈ fb
  | [], _ => ⟨[], rfl, fun e he => by cases he⟩
  | x :: xs, h => by
    rw [List.all_cons, Bool.and_eq_true] at h
    obtain ⟨a, b, rfl, ha, hb⟩ := rowOk_shape h.1
    obtain ⟨es, rfl, hes⟩ := rows_shape h.2
    refine ⟨(a, b) :: es, rfl, fun e he => ?_⟩
    rcases List.mem_cons.mp he with rfl | he
    · exact ⟨ha, hb⟩
    · exact hes e he
theorem rowOk_nopair {fa fb : List Str} {x : PyData} (h : isPair x = false) : rowOk fa fb x = false := by
  match x, h with
  | .tuple [], _ => rfl
  | .tuple [_], _ => rfl
  | .tuple (_ :: _ :: _ :: _), _ => rfl
  | .none, _ => rfl
  | .bool _, _ => rfl
  | .int _, _ => rfl
  | .str _, _ => rfl
  | .list _, _ => rfl
  | .dict _, _ => rfl
def roBody : Ss := (.cons (.if_ (.or_ (.not_ (.pcall 274 (.cons (.var 3) .nil))) (.or_ (.not_ (.pcall 294 (.cons (.idx (.var 3) (.cst (.int 0))) (.cons (.var 1) .nil)))) (.not_ (.pcall 294 (.cons (.idx (.var 3) (.cst (.int 1))) (.cons (.var 2) .nil)))))) (.cons (.ret (.cst (.bool false))) .nil) .nil) .nil)
theorem roBody_ev (hP : HasRule P) (k : Nat) (fa fb : List Str) (x : PyData) (t : RV) (mh : MH) :
    evSs (CF P sub (k + 1)) roBody [some t, some (.dat (tS fa)), some (.dat (tS fb)), some (.dat x)] mh = if rowOk fa fb x then .next [some t, some (.dat (tS fa)), some (.dat (tS fb)), some (.dat x)] mh else .ret (.dat (.bool false)) mh := by
  have c1 := fun mh => c_is_pair (sub := sub) hP.pa k x mh
  cases e : isPair x with
  | false =>
    rw [rowOk_nopair e]
    simp [roBody, RV.isDat, c1, e]
  | true =>
    obtain ⟨a, b, rfl⟩ := isPair_shape e
    have c2 := fun mh => c_is_word (sub := sub) hP.wd k a fa mh
    have c3 := fun mh => c_is_word (sub := sub) hP.wd k b fb mh
    have er : rowOk fa fb (.tuple [a, b]) = (isWord a fa && isWord b fb) := rfl
    rw [er]
    generalize isWord a fa = b1 at c2 ⊢
    generalize isWord b fb = b2 at c3 ⊢
    generalize tS fa = ta at c2 ⊢
    generalize tS fb = tb at c3 ⊢
    cases b1 <;> cases b2 <;> simp [roBody, RV.isDat, c1, e, idx2_0, idx2_1, c2, c3]
theorem c_rows (hP : HasRule P) (k : Nat) (d : PyData) (fa fb : List Str) (mh : MH) (hd : okT d = true) : (CF P sub (k + 2)).call 281 [.dat d, .dat (tS fa), .dat (tS fb)] mh = .ok (.dat (.bool (isRowsOf d fa fb))) mh := by
  rw [cf_succ hP.ro]
  cases d with
  | tuple xs =>
    have hd' : (big xs.length && okD.okA xs) = true := hd
    rw [Bool.and_eq_true] at hd'
    have hL := forB_until (C := CF P sub (k + 1)) (t := .nm 3) (body := roBody) (I := fun env => ∃ a, env = [some (.dat (.tuple xs)), some (.dat (tS fa)), some (.dat (tS fb)), a]) (P := rowOk fa fb) (r := .dat (.bool false)) (mh := mh) xs [some (.dat (.tuple xs)), some (.dat (tS fa)), some (.dat (tS fb)), none] ⟨none, rfl⟩ (by
      rintro x hx env ⟨a, rfl⟩
      refine ⟨[some (.dat (.tuple xs)), some (.dat (tS fa)), some (.dat (tS fb)), some (.dat x)], rfl, fun h => ⟨_, .inl ?_, ⟨some (.dat x), rfl⟩⟩, fun h => ?_⟩
      · rw [roBody_ev hP k fa fb x, if_pos h]
      · rw [roBody_ev hP k fa fb x, h]; rfl)
    have hi : ∀ env : MEnv, env[0]? = some (some (.dat (.tuple xs))) → ∀ mh, evItF (CF P sub (k + 1)) (.of (.var 0)) env mh = .ok xs mh := fun env h mh => by simp [evItF, h, itemsD]
    have hi := fun mh => hi [some (.dat (.tuple xs)), some (.dat (tS fa)), some (.dat (tS fb)), none] rfl mh
    unfold roBody at hL
    have er2 : isRowsOf (.tuple xs) fa fb = (xs.all (rowOk fa fb) && (riseD xs && oneOne xs)) := rfl
    rw [er2]
    cases e3 : xs.all (rowOk fa fb) with
    | false =>
      have hL := hL.2 e3
      generalize tS fa = ta at hL hi ⊢
      generalize tS fb = tb at hL hi ⊢
      simp [runF, Fn.is_rows_of, RV.passes, tyD, hi, hL, -List.all_eq_true, -List.all_eq_false]
    | true =>
      obtain ⟨env', hL, a, rfl⟩ := hL.1 e3
      obtain ⟨es, rfl, _⟩ := rows_shape e3
      have hb : big es.length = true := by have := hd'.1; rw [List.length_map] at this; exact this
      have c1 := fun mh => c_risingD (sub := sub) hP.ri k (es.map pD) (okLt_pD es) _ (.inr rfl) mh hd'.1
      have c2 := fun mh => c_one (sub := sub) hP.oo k es hb mh
      generalize tS fa = ta at hL hi ⊢
      generalize tS fb = tb at hL hi ⊢
      generalize es.map pD = xs at *
      generalize riseD xs = b1 at c1 ⊢
      generalize oneOne xs = b2 at c2 ⊢
      cases b1 <;> simp [runF, Fn.is_rows_of, RV.passes, RV.isDat, tyD, hi, hL, c1, c2]
  | _ =>
    generalize tS fa = ta
    generalize tS fb = tb
    simp [runF, Fn.is_rows_of, RV.passes, tyD, isRowsOf]
/-! ### a rule -/
def onlyOk (x : PyData) (wa : List Str) : Bool := isWorths x 0 8 && (match x with
  | .tuple xs => (strsOf xs).all fun w => decide (w ∈ wa)
  | _ => false)
def ruleO (g : Gr) (s a : Str) (x : PyData) : Bool := match look g a with
  | some wa => decide (s = "only") && onlyOk x wa
  | none => false
def ruleP (g : Gr) (s a b : Str) (y : PyData) : Bool := match look g a, look g b with
  | some wa, some wb => decide (s = "pairs") && (!decide (b = a) && isRowsOf y wa wb)
  | _, _ => false
def ruleE (g : Gr) (s a : Str) (x : PyData) (b : Str) (z : PyData) : Bool := match look g a, look g b with
  | some wa, some wb => decide (s = "either") && (!decide (b = a) && (isWord x wa && isWord z wb))
  | _, _ => false
def isRuleOf (g : Gr) : PyData → Bool
  | .tuple [.str s, .str a, x] => ruleO g s a x
  | .tuple [.str s, .str a, .str b, y] => ruleP g s a b y
  | .tuple [.str s, .str a, x, .str b, z] => ruleE g s a x b z
  | _ => false
theorem get_word (s : Str) : mthD .get2 (.dict [(.str "pairs", .int 2), (.str "either", .int 3)]) [.str s, .int 0] = some (.int (if s = "pairs" then 2 else if s = "either" then 3 else 0)) := by
  show (if kindOk [(.str "pairs", .int 2), (.str "either", .int 3)] (.str s) then some ((dget [(.str "pairs", .int 2), (.str "either", .int 3)] (.str s)).getD (.int 0)) else none) = _
  have h : kindOk [(.str "pairs", .int 2), (.str "either", .int 3)] (.str s) = true := rfl
  rw [if_pos h]
  show some ((if decide (("pairs" : Str) = s) then some (PyData.int 2) else if decide (("either" : Str) = s) then some (.int 3) else none).getD (.int 0)) = _
  by_cases h1 : s = "pairs"
  · subst h1; rfl
  · by_cases h2 : s = "either"
    · subst h2; rfl
    · have n1 : ¬ ("pairs" : Str) = s := fun e => h1 e.symm
      have n2 : ¬ ("either" : Str) = s := fun e => h2 e.symm
      simp [n1, n2, h1, h2]
theorem in_kvs (g : Gr) (s : Str) : cmpD .NotIn (.str s) (.dict (kvsOf g)) = some (!(look g s).isSome) := by
  show ((if kindOk (kvsOf g) (.str s) then some (dget (kvsOf g) (.str s)).isSome else none : Option Bool).map not) = _
  rw [kind_kvs, dget_kvs, if_pos rfl]
  cases look g s <;> rfl
theorem idx_kvs (g : Gr) (s : Str) : idxD (.dict (kvsOf g)) (.str s) = (look g s).map tS := by
  show (if kindOk (kvsOf g) (.str s) then dget (kvsOf g) (.str s) else none) = _
  rw [kind_kvs, dget_kvs, if_pos rfl]
end Mn
end
section
set_option linter.all false
set_option autoImplicit false
set_option maxRecDepth 100000
namespace Mn
open PySem
variable {P : Nat → Option FDef} {sub : Nat → Nat → Option Bool}
theorem stepN {C : CallF} {s : S} {r : Ss} {env env' : MEnv} {mh mh' : MH} {o : SO} (h : evS C s env mh = .next env' mh') (h2 : evSs C r env' mh' = o) : evSs C (.cons s r) env mh = o := by
  rw [evSs_cons, h]; exact h2
theorem stepR {C : CallF} {s : S} {r : Ss} {env : MEnv} {mh mh' : MH} {v : RV} (h : evS C s env mh = .ret v mh') : evSs C (.cons s r) env mh = .ret v mh' := by
  rw [evSs_cons, h]; rfl
theorem eq_str (i j : Str) : cmpD .Eq (.str i) (.str j) = some (decide (i = j)) := by
  show eqD _ _ = _
  unfold eqD
  rw [depOk_str, depOk_str]
  show some (PyData.eqv (.str i) (.str j)) = _
  rw [eqv_str]
def inRow (ws wa : List Str) : PyData := .list (ws.map fun w => PyData.bool (decide (w ∈ wa)))
theorem allD_inRow (ws wa : List Str) : allD (inRow ws wa) = some (.bool (ws.all fun w => decide (w ∈ wa))) := all_map _ _
theorem isWorths_tup {x : PyData} {lo hi : Int} (h : isWorths x lo hi = true) : ∃ ws : List Str, x = tS ws := by
  cases x with
  | tuple xs =>
    have h' : (decide (lo ≤ (xs.length : Int)) && (decide ((xs.length : Int) ≤ hi) && (xs.all isWorth && rise (strsOf xs)))) = true := h
    simp only [Bool.and_eq_true] at h'
    exact ⟨strsOf xs, by show PyData.tuple xs = .tuple _; rw [← worths_strs xs h'.2.2.1]⟩
  | _ => cases h
theorem okD_mem {xs : List PyData} (h : okD (.tuple xs) = true) {x : PyData} (hx : x ∈ xs) : okD x = true := by
  have h' : (big xs.length && okD.okA xs) = true := h
  rw [Bool.and_eq_true] at h'
  exact okA_mem h'.2 hx
def rl0 : S := (.if_ (.or_ (.not_ (.isi (.var 1) .tup)) (.or_ (.not_ (.chain .LtE .LtE (.cst (.int 3)) (.blt .len (.cons (.var 1) .nil)) (.cst (.int 5)))) (.not_ (.isi (.idx (.var 1) (.cst (.int 0))) .str)))) (.cons (.ret (.cst (.bool false))) .nil) .nil)
def rl1 : S := (.asg (.nm 2) (.blt .dct (.cons (.var 0) .nil)))
def rl2 : S := (.asg (.nm 3) (.idx (.var 1) (.cst (.int 0))))
def rl3 : S := (.if_ (.or_ (.not_ (.isi (.idx (.var 1) (.cst (.int 1))) .str)) (.cmp .NotIn (.idx (.var 1) (.cst (.int 1))) (.var 2))) (.cons (.ret (.cst (.bool false))) .nil) .nil)
def rl4 : S := (.if_ (.cmp .Eq (.var 3) (.cst (.str "only"))) (.cons (.if_ (.or_ (.cmp .NotEq (.blt .len (.cons (.var 1) .nil)) (.cst (.int 3))) (.not_ (.pcall 296 (.cons (.idx (.var 1) (.cst (.int 2))) (.cons (.cst (.int 0)) (.cons (.cst (.int 8)) .nil)))))) (.cons (.ret (.cst (.bool false))) .nil) .nil) (.cons (.ret (.blt .all (.cons (.comp (.cmp .In (.var 4) (.idx (.var 2) (.idx (.var 1) (.cst (.int 1))))) (.nm 4) (.of (.idx (.var 1) (.cst (.int 2)))) (.cst (.bool true)) [4]) .nil))) .nil)) .nil)
def rl5 : S := (.asg (.nm 5) (.mth .get2 (.dsp (.cons (.cst (.str "pairs")) (.cons (.cst (.int 2)) (.cons (.cst (.str "either")) (.cons (.cst (.int 3)) .nil))))) (.cons (.var 3) (.cons (.cst (.int 0)) .nil))))
def rl6 : S := (.if_ (.or_ (.not_ (.var 5)) (.or_ (.cmp .NotEq (.blt .len (.cons (.var 1) .nil)) (.bin .Add (.var 5) (.cst (.int 2)))) (.not_ (.isi (.idx (.var 1) (.var 5)) .str)))) (.cons (.ret (.cst (.bool false))) .nil) .nil)
def rl7 : S := (.if_ (.or_ (.cmp .NotIn (.idx (.var 1) (.var 5)) (.var 2)) (.cmp .Eq (.idx (.var 1) (.var 5)) (.idx (.var 1) (.cst (.int 1))))) (.cons (.ret (.cst (.bool false))) .nil) .nil)
def rl8 : S := (.if_ (.cmp .Eq (.var 3) (.cst (.str "pairs"))) (.cons (.ret (.pcall 281 (.cons (.idx (.var 1) (.cst (.int 3))) (.cons (.idx (.var 2) (.idx (.var 1) (.cst (.int 1)))) (.cons (.idx (.var 2) (.idx (.var 1) (.cst (.int 2)))) .nil))))) .nil) .nil)
def rl9 : S := (.ret (.and_ (.pcall 294 (.cons (.idx (.var 1) (.cst (.int 2))) (.cons (.idx (.var 2) (.idx (.var 1) (.cst (.int 1)))) .nil))) (.pcall 294 (.cons (.idx (.var 1) (.cst (.int 4))) (.cons (.idx (.var 2) (.idx (.var 1) (.cst (.int 3)))) .nil)))))
theorem rl_run (C : CallF) (x0 x1 : PyData) (mh : MH) : runF C Fn.is_rule_of [.dat x0, .dat x1] mh = bodyEnd (evSs C (.cons rl0 (.cons rl1 (.cons rl2 (.cons rl3 (.cons rl4 (.cons rl5 (.cons rl6 (.cons rl7 (.cons rl8 (.cons rl9 .nil)))))))))) [some (.dat x0), some (.dat x1), none, none, none, none] mh) := rfl
section
variable {C : CallF} {gg dk T x0 x1 : PyData} {n : Nat} {s a b : Str} {mh : MH} {j : Int}
abbrev rE (gg T : PyData) (p q r t : Option RV) : MEnv := [some (.dat gg), some (.dat T), p, q, r, t]
theorem l0_ok (hl : lenD T = some (.int n)) (h3 : 3 ≤ n) (h5 : n ≤ 5) (ht : tyD .tup T = true) (i0 : idxD T (.int 0) = some (.str s)) : evS C rl0 (rE gg T none none none none) mh = .next (rE gg T none none none none) mh := by
  have le1 : cmpD .LtE (.int 3) (.int n) = some true := by rw [cmp_le_int, decide_eq_true (by omega)]
  have le2 : cmpD .LtE (.int n) (.int 5) = some true := by rw [cmp_le_int, decide_eq_true (by omega)]
  have hs : tyD .str (.str s) = true := rfl
  simp [rl0, ht, bltD, un, hl, le1, le2, i0, hs]
theorem l0_a (ht : tyD .tup T = false) : evS C rl0 (rE gg T none none none none) mh = .ret (.dat (.bool false)) mh := by
  simp [rl0, ht]
theorem l0_b (hl : lenD T = some (.int n)) (h : n < 3 ∨ 5 < n) (ht : tyD .tup T = true) : evS C rl0 (rE gg T none none none none) mh = .ret (.dat (.bool false)) mh := by
  rcases h with h | h
  · have le1 : cmpD .LtE (.int 3) (.int n) = some false := by rw [cmp_le_int, decide_eq_false (by omega)]
    simp [rl0, ht, bltD, un, hl, le1]
  · have le1 : cmpD .LtE (.int 3) (.int n) = some true := by rw [cmp_le_int, decide_eq_true (by omega)]
    have le2 : cmpD .LtE (.int n) (.int 5) = some false := by rw [cmp_le_int, decide_eq_false (by omega)]
    simp [rl0, ht, bltD, un, hl, le1, le2]
theorem l0_c (hl : lenD T = some (.int n)) (h3 : 3 ≤ n) (h5 : n ≤ 5) (ht : tyD .tup T = true) (i0 : idxD T (.int 0) = some x0) (hx : tyD .str x0 = false) : evS C rl0 (rE gg T none none none none) mh = .ret (.dat (.bool false)) mh := by
  have le1 : cmpD .LtE (.int 3) (.int n) = some true := by rw [cmp_le_int, decide_eq_true (by omega)]
  have le2 : cmpD .LtE (.int n) (.int 5) = some true := by rw [cmp_le_int, decide_eq_true (by omega)]
  simp [rl0, ht, bltD, un, hl, le1, le2, i0, hx]
theorem l1_ok (hk : dctD gg = some dk) : evS C rl1 (rE gg T none none none none) mh = .next (rE gg T (some (.dat dk)) none none none) mh := by
  simp [rl1, bltD, un, hk, bindT]
theorem l2_ok (i0 : idxD T (.int 0) = some (.str s)) : evS C rl2 (rE gg T (some (.dat dk)) none none none) mh = .next (rE gg T (some (.dat dk)) (some (.dat (.str s))) none none) mh := by
  simp [rl2, i0, bindT]
abbrev rE2 (gg T dk : PyData) (s : Str) (t : Option RV) : MEnv := rE gg T (some (.dat dk)) (some (.dat (.str s))) none t
theorem l3_ok (i1 : idxD T (.int 1) = some (.str a)) (hn : cmpD .NotIn (.str a) dk = some false) : evS C rl3 (rE2 gg T dk s none) mh = .next (rE2 gg T dk s none) mh := by
  simp [rl3, i1, hn, tyD]
theorem l3_a (i1 : idxD T (.int 1) = some x1) (hx : tyD .str x1 = false) : evS C rl3 (rE2 gg T dk s none) mh = .ret (.dat (.bool false)) mh := by
  simp [rl3, i1, hx]
theorem l3_b (i1 : idxD T (.int 1) = some (.str a)) (hn : cmpD .NotIn (.str a) dk = some true) : evS C rl3 (rE2 gg T dk s none) mh = .ret (.dat (.bool false)) mh := by
  simp [rl3, i1, hn, tyD]
theorem l4_no (h : s ≠ "only") : evS C rl4 (rE2 gg T dk s none) mh = .next (rE2 gg T dk s none) mh := by
  have e := eq_str s "only"
  rw [decide_eq_false h] at e
  simp [rl4, e]
theorem l4_len (hl : lenD T = some (.int n)) (h3 : n ≠ 3) : evS C rl4 (rE2 gg T dk "only" none) mh = .ret (.dat (.bool false)) mh := by
  have e : cmpD .Eq (.str ("only" : Str)) (.str ("only" : Str)) = some true := by rw [eq_str]; rfl
  have ne : cmpD .NotEq (.int n) (.int 3) = some true := by rw [cmp_ne_int, decide_eq_false (by omega)]; rfl
  simp [rl4, e, bltD, un, hl, ne]
theorem get_word' : dspD [.str "pairs", .int 2, .str "either", .int 3] = some (.dict [(.str "pairs", .int 2), (.str "either", .int 3)]) := rfl
theorem l5_ok (hj : j = if s = "pairs" then 2 else if s = "either" then 3 else 0) : evS C rl5 (rE2 gg T dk s none) mh = .next (rE2 gg T dk s (some (.dat (.int j)))) mh := by
  have g3 := get_word s
  rw [← hj] at g3
  have dsp := get_word'
  have mt : mthTy .get2 (some (.dict [(.str "pairs", .int 2), (.str "either", .int 3)])) = true := rfl
  generalize PyData.dict [(.str "pairs", .int 2), (.str "either", .int 3)] = dw at g3 dsp mt
  simp [rl5, dsp, mt, g3, bindT]
theorem l6_0 : evS C rl6 (rE2 gg T dk s (some (.dat (.int 0)))) mh = .ret (.dat (.bool false)) mh := by
  simp [rl6]
theorem l6_len (hl : lenD T = some (.int n)) (hj : j ≠ 0) (h : (n : Int) ≠ j + 2) : evS C rl6 (rE2 gg T dk s (some (.dat (.int j)))) mh = .ret (.dat (.bool false)) mh := by
  have ne : cmpD .NotEq (.int n) (.int (j + 2)) = some true := by rw [cmp_ne_int, decide_eq_false h]; rfl
  have ad : binD .Add (.int j) (.int 2) = some (.int (j + 2)) := rfl
  have hz : (j != 0) = true := by simpa using hj
  simp [rl6, hz, bltD, un, hl, ad, ne]
theorem l6_ty (hl : lenD T = some (.int n)) (hj : j ≠ 0) (h : (n : Int) = j + 2) (ij : idxD T (.int j) = some x1) (hx : tyD .str x1 = false) : evS C rl6 (rE2 gg T dk s (some (.dat (.int j)))) mh = .ret (.dat (.bool false)) mh := by
  have ne : cmpD .NotEq (.int n) (.int (j + 2)) = some false := by rw [cmp_ne_int, decide_eq_true h]; rfl
  have ad : binD .Add (.int j) (.int 2) = some (.int (j + 2)) := rfl
  have hz : (j != 0) = true := by simpa using hj
  simp [rl6, hz, bltD, un, hl, ad, ne, ij, hx]
theorem l6_ok (hl : lenD T = some (.int n)) (hj : j ≠ 0) (h : (n : Int) = j + 2) (ij : idxD T (.int j) = some (.str b)) : evS C rl6 (rE2 gg T dk s (some (.dat (.int j)))) mh = .next (rE2 gg T dk s (some (.dat (.int j)))) mh := by
  have ne : cmpD .NotEq (.int n) (.int (j + 2)) = some false := by rw [cmp_ne_int, decide_eq_true h]; rfl
  have ad : binD .Add (.int j) (.int 2) = some (.int (j + 2)) := rfl
  have hz : (j != 0) = true := by simpa using hj
  simp [rl6, hz, bltD, un, hl, ad, ne, ij, tyD]
theorem l7_in (ij : idxD T (.int j) = some (.str b)) (hn : cmpD .NotIn (.str b) dk = some true) : evS C rl7 (rE2 gg T dk s (some (.dat (.int j)))) mh = .ret (.dat (.bool false)) mh := by
  simp [rl7, ij, hn]
theorem l7_eq (ij : idxD T (.int j) = some (.str a)) (i1 : idxD T (.int 1) = some (.str a)) (hn : cmpD .NotIn (.str a) dk = some false) : evS C rl7 (rE2 gg T dk s (some (.dat (.int j)))) mh = .ret (.dat (.bool false)) mh := by
  have e : cmpD .Eq (.str a) (.str a) = some true := by rw [eq_str, decide_eq_true rfl]
  simp [rl7, ij, i1, hn, e]
theorem l7_ok (ij : idxD T (.int j) = some (.str b)) (i1 : idxD T (.int 1) = some (.str a)) (hn : cmpD .NotIn (.str b) dk = some false) (hne : b ≠ a) : evS C rl7 (rE2 gg T dk s (some (.dat (.int j)))) mh = .next (rE2 gg T dk s (some (.dat (.int j)))) mh := by
  have e : cmpD .Eq (.str b) (.str a) = some false := by rw [eq_str, decide_eq_false hne]
  simp [rl7, ij, i1, hn, e]
theorem l8_no (h : s ≠ "pairs") : evS C rl8 (rE2 gg T dk s (some (.dat (.int j)))) mh = .next (rE2 gg T dk s (some (.dat (.int j)))) mh := by
  have e := eq_str s "pairs"
  rw [decide_eq_false h] at e
  simp [rl8, e]
end
section
variable {gg T x y z : PyData} {g : Gr} {s a b : Str} {wa wb : List Str} {mh : MH} {j : Int}
theorem l4_w (hP : HasRule P) (k : Nat) (hl : lenD T = some (.int 3)) (i1 : idxD T (.int 1) = some (.str a)) (i2 : idxD T (.int 2) = some x) (ox : okD x = true) (hw : look g a = some wa) :
    evS (CF P sub (k + 2)) rl4 (rE2 gg T (.dict (kvsOf g)) "only" none) mh = .ret (.dat (.bool (onlyOk x wa))) mh := by
  have e : cmpD .Eq (.str ("only" : Str)) (.str ("only" : Str)) = some true := by rw [eq_str]; rfl
  have ne : cmpD .NotEq (.int 3) (.int 3) = some false := by rw [cmp_ne_int]; rfl
  have cw := fun mh => c_is_worths (sub := sub) hP.ws hP.wo hP.ri k x 0 8 mh ox
  have g2 := idx_kvs g a
  rw [hw] at g2
  have g2 : idxD (.dict (kvsOf g)) (.str a) = some (tS wa) := g2
  generalize PyData.dict (kvsOf g) = dk at g2
  cases e3 : isWorths x 0 8 with
  | false =>
    rw [e3] at cw
    simp [rl4, RV.isDat, bltD, un, hl, e, ne, i2, cw, onlyOk, e3]
  | true =>
    rw [e3] at cw
    obtain ⟨ws, rfl⟩ := isWorths_tup e3
    have ob : big (ws.map PyData.str).length = true := by
      have h' : (big (ws.map PyData.str).length && okD.okA (ws.map .str)) = true := ox
      rw [Bool.and_eq_true] at h'
      exact h'.1
    have hcm : ∀ mh, (evP (CF P sub (k + 2)) (.comp (.cmp .In (.var 4) (.idx (.var 2) (.idx (.var 1) (.cst (.int 1))))) (.nm 4) (.of (.idx (.var 1) (.cst (.int 2)))) (.cst (.bool true)) [4])).1 (rE2 gg T dk "only" none) mh = .ok (.dat (inRow ws wa)) mh := fun mh => by
      have hit : itemsD (tS ws) = some (ws.map .str) := rfl
      have e := ev_map (C := CF P sub (k + 2)) (elt := .cmp .In (.var 4) (.idx (.var 2) (.idx (.var 1) (.cst (.int 1))))) (tg := .nm 4) (it := .of (.idx (.var 1) (.cst (.int 2)))) (c := .cst (.bool true)) (own := [4]) (env := rE2 gg T dk "only" none) (mh := mh) (mh1 := mh) (xs := ws.map .str) (f := fun d => match d with | .str w => .bool (decide (w ∈ wa)) | _ => .none) (by simp [evIt, i2, hit]) ob fun x hx => by
        obtain ⟨w, hw, rfl⟩ := List.mem_map.mp hx
        have hin := in_tS w wa
        generalize tS wa = twa at hin g2
        simp [cmpTurn, bindT, wipeM, i1, g2, hin]
      rw [e, List.map_map]
      rfl
    have eo : onlyOk (tS ws) wa = ws.all fun w => decide (w ∈ wa) := by
      show (isWorths (tS ws) 0 8 && (strsOf (ws.map .str)).all fun w => decide (w ∈ wa)) = _
      rw [e3, strsOf_map]; rfl
    have ha := allD_inRow ws wa
    rw [eo]
    generalize (ws.all fun w => decide (w ∈ wa)) = bb at ha ⊢
    generalize inRow ws wa = row at hcm ha
    generalize tS ws = tw at *
    simp [rl4, RV.isDat, bltD, un, hl, e, ne, i2, cw, hcm, ha]
theorem l8_rows (hP : HasRule P) (k : Nat) (i1 : idxD T (.int 1) = some (.str a)) (i2 : idxD T (.int 2) = some (.str b)) (i3 : idxD T (.int 3) = some y) (oy : okT y = true) (hw : look g a = some wa) (hv : look g b = some wb) :
    evS (CF P sub (k + 2)) rl8 (rE2 gg T (.dict (kvsOf g)) "pairs" (some (.dat (.int j)))) mh = .ret (.dat (.bool (isRowsOf y wa wb))) mh := by
  have e : cmpD .Eq (.str ("pairs" : Str)) (.str ("pairs" : Str)) = some true := by rw [eq_str]; rfl
  have c := fun mh => c_rows (sub := sub) hP k y wa wb mh oy
  have g1 := idx_kvs g a
  have g2 := idx_kvs g b
  rw [hw] at g1
  rw [hv] at g2
  have g1 : idxD (.dict (kvsOf g)) (.str a) = some (tS wa) := g1
  have g2 : idxD (.dict (kvsOf g)) (.str b) = some (tS wb) := g2
  generalize PyData.dict (kvsOf g) = dk at g1 g2
  generalize tS wa = ta at g1 c
  generalize tS wb = tb at g2 c
  simp [rl8, RV.isDat, e, i1, i2, i3, g1, g2, c]
theorem l9_ok (hP : HasRule P) (k : Nat) (i1 : idxD T (.int 1) = some (.str a)) (i2 : idxD T (.int 2) = some x) (i3 : idxD T (.int 3) = some (.str b)) (i4 : idxD T (.int 4) = some z) (hw : look g a = some wa) (hv : look g b = some wb) :
    evS (CF P sub (k + 1)) rl9 (rE2 gg T (.dict (kvsOf g)) s (some (.dat (.int j)))) mh = .ret (.dat (.bool (isWord x wa && isWord z wb))) mh := by
  have c1 := fun mh => c_is_word (sub := sub) hP.wd k x wa mh
  have c2 := fun mh => c_is_word (sub := sub) hP.wd k z wb mh
  have g1 := idx_kvs g a
  have g2 := idx_kvs g b
  rw [hw] at g1
  rw [hv] at g2
  have g1 : idxD (.dict (kvsOf g)) (.str a) = some (tS wa) := g1
  have g2 : idxD (.dict (kvsOf g)) (.str b) = some (tS wb) := g2
  generalize PyData.dict (kvsOf g) = dk at g1 g2
  generalize isWord x wa = b1 at c1 ⊢
  generalize isWord z wb = b2 at c2 ⊢
  generalize tS wa = ta at g1 c1
  generalize tS wb = tb at g2 c2
  cases b1 <;> simp [rl9, RV.isDat, i1, i2, i3, i4, g1, g2, c1, c2]
end
end Mn
end
section
set_option linter.all false
set_option autoImplicit false
set_option maxRecDepth 100000
namespace Mn
open PySem
variable {P : Nat → Option FDef} {sub : Nat → Nat → Option Bool}
theorem ne_only_pairs : ("pairs" : Str) ≠ "only" := by decide
theorem ne_only_either : ("either" : Str) ≠ "only" := by decide
theorem ne_either_pairs : ("either" : Str) ≠ "pairs" := by decide
theorem not_in {g : Gr} {a : Str} {wa : List Str} (h : look g a = some wa) : cmpD .NotIn (.str a) (.dict (kvsOf g)) = some false := by rw [in_kvs, h]; rfl
theorem not_in' {g : Gr} {a : Str} (h : look g a = none) : cmpD .NotIn (.str a) (.dict (kvsOf g)) = some true := by rw [in_kvs, h]; rfl
section
variable {gg : PyData} {g : Gr} {s a : Str} {wa : List Str} {x y z : PyData} {mh : MH}
abbrev rlT4 : Ss := .cons rl4 (.cons rl5 (.cons rl6 (.cons rl7 (.cons rl8 (.cons rl9 .nil)))))
/-- from the fifth statement on, where the first leaf is there -/
theorem rl_three (hP : HasRule P) (k : Nat) (hw : look g a = some wa) (ox : okD x = true) : evSs (CF P sub (k + 2)) rlT4 (rE2 gg (.tuple [.str s, .str a, x]) (.dict (kvsOf g)) s none) mh = .ret (.dat (.bool (ruleO g s a x))) mh := by
  unfold ruleO
  rw [hw]
  by_cases h1 : s = "only"
  · subst h1
    show _ = SO.ret (.dat (.bool (decide (("only" : Str) = "only") && onlyOk x wa))) mh
    rw [decide_eq_true (rfl : ("only" : Str) = "only"), Bool.true_and]
    exact stepR (l4_w hP k rfl rfl rfl ox hw)
  · show _ = SO.ret (.dat (.bool (decide (s = "only") && onlyOk x wa))) mh
    rw [decide_eq_false h1, Bool.false_and]
    refine stepN (l4_no h1) ?_
    by_cases h2 : s = "pairs"
    · subst h2
      exact stepN (l5_ok (j := 2) rfl) (stepR (l6_len (n := 3) rfl (by decide) (by decide)))
    · by_cases h3 : s = "either"
      · subst h3
        exact stepN (l5_ok (j := 3) rfl) (stepR (l6_len (n := 3) rfl (by decide) (by decide)))
      · exact stepN (l5_ok (j := 0) (by rw [if_neg h2, if_neg h3])) (stepR l6_0)
theorem rl_four (hP : HasRule P) (k : Nat) (hw : look g a = some wa) (oy : okT y = true) : evSs (CF P sub (k + 2)) rlT4 (rE2 gg (.tuple [.str s, .str a, x, y]) (.dict (kvsOf g)) s none) mh = .ret (.dat (.bool (isRuleOf g (.tuple [.str s, .str a, x, y])))) mh := by
  by_cases h1 : s = "only"
  · subst h1
    have e : isRuleOf g (.tuple [.str "only", .str a, x, y]) = false := by
      cases x with
      | str b =>
        show ruleP g "only" a b y = false
        unfold ruleP
        rw [hw]
        cases look g b with
        | none => rfl
        | some wb => rfl
      | _ => rfl
    rw [e]
    exact stepR (l4_len (n := 4) rfl (by decide))
  · refine stepN (l4_no h1) ?_
    by_cases h2 : s = "pairs"
    · subst h2
      refine stepN (l5_ok (j := 2) rfl) ?_
      cases x with
      | str b =>
        refine stepN (l6_ok (n := 4) (b := b) rfl (by decide) (by decide) rfl) ?_
        show _ = SO.ret (.dat (.bool (ruleP g "pairs" a b y))) mh
        unfold ruleP
        rw [hw]
        cases hv : look g b with
        | none => exact stepR (l7_in (b := b) rfl (not_in' hv))
        | some wb =>
          show _ = SO.ret (.dat (.bool (decide (("pairs" : Str) = "pairs") && (!decide (b = a) && isRowsOf y wa wb)))) mh
          rw [decide_eq_true (rfl : ("pairs" : Str) = "pairs"), Bool.true_and]
          by_cases hba : b = a
          · subst hba
            rw [decide_eq_true rfl]
            exact stepR (l7_eq (a := b) rfl rfl (not_in hv))
          · rw [decide_eq_false hba]
            exact stepN (l7_ok (b := b) (a := a) rfl rfl (not_in hv) hba) (stepR (l8_rows hP k (a := a) (b := b) rfl rfl rfl oy hw hv))
      | _ => exact stepR (l6_ty (n := 4) rfl (by decide) (by decide) rfl rfl)
    · have e : isRuleOf g (.tuple [.str s, .str a, x, y]) = false := by
        cases x with
        | str b =>
          show ruleP g s a b y = false
          unfold ruleP
          rw [hw]
          cases look g b with
          | none => rfl
          | some wb =>
            show (decide (s = "pairs") && _) = false
            rw [decide_eq_false h2, Bool.false_and]
        | _ => rfl
      rw [e]
      by_cases h3 : s = "either"
      · subst h3
        exact stepN (l5_ok (j := 3) rfl) (stepR (l6_len (n := 4) rfl (by decide) (by decide)))
      · exact stepN (l5_ok (j := 0) (by rw [if_neg h2, if_neg h3])) (stepR l6_0)
theorem rl_five {y : PyData} (hP : HasRule P) (k : Nat) (hw : look g a = some wa) : evSs (CF P sub (k + 2)) rlT4 (rE2 gg (.tuple [.str s, .str a, x, y, z]) (.dict (kvsOf g)) s none) mh = .ret (.dat (.bool (isRuleOf g (.tuple [.str s, .str a, x, y, z])))) mh := by
  by_cases h3 : s = "either"
  · subst h3
    refine stepN (l4_no ne_only_either) (stepN (l5_ok (j := 3) rfl) ?_)
    cases y with
    | str b =>
      refine stepN (l6_ok (n := 5) (b := b) rfl (by decide) (by decide) rfl) ?_
      show _ = SO.ret (.dat (.bool (ruleE g "either" a x b z))) mh
      unfold ruleE
      rw [hw]
      cases hv : look g b with
      | none => exact stepR (l7_in (b := b) rfl (not_in' hv))
      | some wb =>
        show _ = SO.ret (.dat (.bool (decide (("either" : Str) = "either") && (!decide (b = a) && (isWord x wa && isWord z wb))))) mh
        rw [decide_eq_true (rfl : ("either" : Str) = "either"), Bool.true_and]
        by_cases hba : b = a
        · subst hba
          rw [decide_eq_true rfl]
          exact stepR (l7_eq (a := b) rfl rfl (not_in hv))
        · rw [decide_eq_false hba]
          exact stepN (l7_ok (b := b) (a := a) rfl rfl (not_in hv) hba) (stepN (l8_no ne_either_pairs) (stepR (l9_ok hP (k + 1) (a := a) (b := b) rfl rfl rfl rfl hw hv)))
    | _ => exact stepR (l6_ty (n := 5) rfl (by decide) (by decide) rfl rfl)
  · have e : isRuleOf g (.tuple [.str s, .str a, x, y, z]) = false := by
      cases y with
      | str b =>
        have e2 : isRuleOf g (.tuple [.str s, .str a, x, .str b, z]) = ruleE g s a x b z := by cases x <;> rfl
        rw [e2]
        unfold ruleE
        rw [hw]
        cases look g b with
        | none => rfl
        | some wb =>
          show (decide (s = "either") && _) = false
          rw [decide_eq_false h3, Bool.false_and]
      | _ => cases x <;> rfl
    rw [e]
    by_cases h1 : s = "only"
    · subst h1
      exact stepR (l4_len (n := 5) rfl (by decide))
    · refine stepN (l4_no h1) ?_
      by_cases h2 : s = "pairs"
      · subst h2
        exact stepN (l5_ok (j := 2) rfl) (stepR (l6_len (n := 5) rfl (by decide) (by decide)))
      · exact stepN (l5_ok (j := 0) (by rw [if_neg h2, if_neg h3])) (stepR l6_0)
end
theorem c_rule_of (hP : HasRule P) (k : Nat) (g : Gr) (d : PyData) (mh : MH) (hd : okD d = true) (hg : (g.map (·.1)).Nodup) : (CF P sub (k + 3)).call 283 [.dat (gD g), .dat d] mh = .ok (.dat (.bool (isRuleOf g d))) mh := by
  rw [cf_succ hP.rl, rl_run]
  have hk : dctD (gD g) = some (.dict (kvsOf g)) := by
    show (pairsD (g.map leafD) (kvsOf [])).map PyData.dict = _
    rw [pairs_kvs g [] hg]; rfl
  generalize gD g = gg at hk ⊢
  suffices h : evSs (CF P sub (k + 2)) (.cons rl0 (.cons rl1 (.cons rl2 (.cons rl3 rlT4)))) (rE gg d none none none none) mh = .ret (.dat (.bool (isRuleOf g d))) mh by
    show bodyEnd (evSs (CF P sub (k + 2)) (.cons rl0 (.cons rl1 (.cons rl2 (.cons rl3 rlT4)))) (rE gg d none none none none) mh) = _
    rw [h]; rfl
  cases d with
  | tuple xs =>
    have pre : ∀ (n : Nat) (s : Str) (x1 : PyData) (R : Bool), lenD (.tuple xs) = some (.int n) → 3 ≤ n → n ≤ 5 → idxD (.tuple xs) (.int 0) = some (.str s) → idxD (.tuple xs) (.int 1) = some x1 →
        (∀ a wa, x1 = .str a → look g a = some wa → evSs (CF P sub (k + 2)) rlT4 (rE2 gg (.tuple xs) (.dict (kvsOf g)) s none) mh = .ret (.dat (.bool R)) mh) →
        (tyD .str x1 = false → R = false) → (∀ a, x1 = .str a → look g a = none → R = false) →
        evSs (CF P sub (k + 2)) (.cons rl0 (.cons rl1 (.cons rl2 (.cons rl3 rlT4)))) (rE gg (.tuple xs) none none none none) mh = .ret (.dat (.bool R)) mh := by
      intro n s x1 R hl h3 h5 i0 i1 hok h1 h2
      refine stepN (l0_ok hl h3 h5 rfl i0) (stepN (l1_ok hk) (stepN (l2_ok i0) ?_))
      cases ht : tyD .str x1 with
      | false => rw [h1 ht]; exact stepR (l3_a i1 ht)
      | true =>
        cases x1 with
        | str a =>
          cases hw : look g a with
          | none => rw [h2 a rfl hw]; exact stepR (l3_b i1 (not_in' hw))
          | some wa => exact stepN (l3_ok i1 (not_in hw)) (hok a wa rfl hw)
        | _ => cases ht
    match xs, hd, pre with
    | [], _, _ => exact stepR (l0_b (n := 0) rfl (by omega) rfl)
    | [x0], _, _ =>
      have e : isRuleOf g (.tuple [x0]) = false := by cases x0 <;> rfl
      rw [e]
      exact stepR (l0_b (n := 1) rfl (by omega) rfl)
    | [x0, x1], _, _ =>
      have e : isRuleOf g (.tuple [x0, x1]) = false := by cases x0 <;> first | rfl | (cases x1 <;> rfl)
      rw [e]
      exact stepR (l0_b (n := 2) rfl (by omega) rfl)
    | [x0, x1, x2], hd, pre =>
      cases x0 with
      | str s =>
        refine pre 3 s x1 _ rfl (by omega) (by omega) rfl rfl (fun a wa e hw => ?_) (fun ht => ?_) (fun a e hw => ?_)
        · subst e
          have e2 : isRuleOf g (.tuple [.str s, .str a, x2]) = ruleO g s a x2 := by cases x2 <;> rfl
          rw [e2]
          exact rl_three hP k hw (okD_mem hd (by simp))
        · cases x1 <;> first | rfl | cases ht
        · subst e
          have e2 : isRuleOf g (.tuple [.str s, .str a, x2]) = ruleO g s a x2 := by cases x2 <;> rfl
          rw [e2]
          unfold ruleO
          rw [hw]
      | _ => exact stepR (l0_c (n := 3) rfl (by omega) (by omega) rfl rfl rfl)
    | [x0, x1, x2, x3], hd, pre =>
      cases x0 with
      | str s =>
        refine pre 4 s x1 _ rfl (by omega) (by omega) rfl rfl (fun a wa e hw => ?_) (fun ht => ?_) (fun a e hw => ?_)
        · subst e
          exact rl_four hP k hw (okT_of (okD_mem hd (by simp)))
        · cases x1 <;> first | rfl | cases ht
        · subst e
          cases x2 with
          | str b =>
            show ruleP g s a b x3 = false
            unfold ruleP
            rw [hw]
          | _ => rfl
      | _ => exact stepR (l0_c (n := 4) rfl (by omega) (by omega) rfl rfl rfl)
    | [x0, x1, x2, x3, x4], hd, pre =>
      cases x0 with
      | str s =>
        refine pre 5 s x1 _ rfl (by omega) (by omega) rfl rfl (fun a wa e hw => ?_) (fun ht => ?_) (fun a e hw => ?_)
        · subst e
          exact rl_five hP k hw
        · cases x1 <;> first | rfl | cases ht
        · subst e
          cases x3 with
          | str b =>
            have e2 : isRuleOf g (.tuple [.str s, .str a, x2, .str b, x4]) = ruleE g s a x2 b x4 := by cases x2 <;> rfl
            rw [e2]
            unfold ruleE
            rw [hw]
          | _ => cases x2 <;> rfl
      | _ => exact stepR (l0_c (n := 5) rfl (by omega) (by omega) rfl rfl rfl)
    | x0 :: x1 :: x2 :: x3 :: x4 :: x5 :: r, _, _ =>
      have e : isRuleOf g (.tuple (x0 :: x1 :: x2 :: x3 :: x4 :: x5 :: r)) = false := by
        cases x0 <;> first | rfl | (cases x1 <;> first | rfl | (cases x2 <;> first | rfl | (cases x3 <;> rfl)))
      rw [e]
      exact stepR (l0_b (n := r.length + 6) rfl (by omega) rfl)
  | _ => exact stepR (l0_a rfl)
structure HasBook (P : Nat → Option FDef) : Prop extends HasRule P where
  ak : P 190 = some Fn.ask_ground
  rr : P 282 = some Fn.is_rule
  bk : P 249 = some Fn.is_book
  ab : P 183 = some Fn.ask_book
  so : P 285 = some Fn.is_state_of
theorem HasBook.ask (h : HasBook P) (k : Nat) (d : PyData) (mh : MH) (hd : okD d = true) : (CF P sub (k + 4)).call 190 [.dat d] mh = if isGround d then .ok (.dat .none) mh else .exc ⟨15, none⟩ mh := by
  have c := fun mh => c_is_ground (sub := sub) h.toHasGround k d mh hd
  rw [cf_succ h.ak]
  cases e : isGround d <;> simp [runF, Fn.ask_ground, RV.passes, RV.isDat, c, e]
theorem c_rule (h : HasBook P) (k : Nat) (g : Gr) (hg : RightG g) (d : PyData) (mh : MH) (hd : okD d = true) : (CF P sub (k + 5)).call 282 [.dat (gD g), .dat d] mh = .ok (.dat (.bool (isRuleOf g d))) mh := by
  have c1 := fun mh => HasBook.ask (sub := sub) h k (gD g) mh hg.ok
  have c2 : ∀ mh, (CF P sub (k + 4)).call 283 [.dat (gD g), .dat d] mh = .ok (.dat (.bool (isRuleOf g d))) mh := fun mh => c_rule_of (sub := sub) h.toHasRule (k + 1) g d mh hd (ground_nodup hg.gr)
  rw [cf_succ h.rr]
  rw [hg.gr] at c1
  generalize gD g = gg at c1 c2 ⊢
  simp [runF, Fn.is_rule, RV.passes, RV.isDat, c1, c2]
end Mn
end
section
set_option linter.all false
set_option autoImplicit false
set_option maxRecDepth 100000
namespace Mn
open PySem
variable {P : Nat → Option FDef} {sub : Nat → Nat → Option Bool}
/-! ### is_book -/
def ruleRow (g : Gr) (rs : List PyData) : PyData := .list (rs.map fun r => PyData.bool (isRuleOf g r))
theorem allD_ruleRow (g : Gr) (rs : List PyData) : allD (ruleRow g rs) = some (.bool (rs.all (isRuleOf g))) := all_map _ _
def bookOk (g : Gr) (rs : List PyData) : Bool := decide ((rs.length : Int) ≤ 1000) && rs.all (isRuleOf g)
def bookD (g : Gr) (rs : List PyData) : PyData := .tuple [gD g, .tuple rs]
theorem c_book (h : HasBook P) (k : Nat) (g : Gr) (hg : RightG g) (rs : List PyData) (hr : okD (.tuple rs) = true) (mh : MH) : (CF P sub (k + 4)).call 249 [.dat (bookD g rs)] mh = .ok (.dat (.bool (bookOk g rs))) mh := by
  have c1 := fun mh => c_is_pair (sub := sub) h.pa (k + 2) (bookD g rs) mh
  have c2 := fun mh => c_is_ground (sub := sub) h.toHasGround k (gD g) mh hg.ok
  have c3 := fun d (hd : okD d = true) mh => c_rule_of (sub := sub) h.toHasRule k g d mh hd (ground_nodup hg.gr)
  rw [hg.gr] at c2
  have c1 : ∀ mh, (CF P sub (k + 3)).call 274 [.dat (bookD g rs)] mh = .ok (.dat (.bool true)) mh := c1
  have i0 : idxD (bookD g rs) (.int 0) = some (gD g) := rfl
  have i1 : idxD (bookD g rs) (.int 1) = some (.tuple rs) := rfl
  have hb : big rs.length = true := by
    have h' : (big rs.length && okD.okA rs) = true := hr
    rw [Bool.and_eq_true] at h'
    exact h'.1
  have hcm : ∀ env : MEnv, env[0]? = some (some (.dat (bookD g rs))) → 1 < env.length → ∀ mh, (evP (CF P sub (k + 3)) (.comp (.pcall 283 (.cons (.idx (.var 0) (.cst (.int 0))) (.cons (.var 1) .nil))) (.nm 1) (.of (.idx (.var 0) (.cst (.int 1)))) (.cst (.bool true)) [1])).1 env mh = .ok (.dat (ruleRow g rs)) mh := fun env h0 h1 mh => by
    refine ev_map (mh1 := mh) (xs := rs) (f := fun r => .bool (isRuleOf g r)) (by simp [evIt, h0, i1, itemsD]) hb fun x hx => ?_
    have c := c3 x (okD_mem hr hx)
    generalize bookD g rs = bd at h0 i0 i1
    generalize gD g = gg at i0 c
    simp [cmpTurn, bindT, wipeM, h0, h1, i0, RV.isDat, c]
  have hcm := fun mh => hcm [some (.dat (bookD g rs)), none] rfl (by simp) mh
  have le : cmpD .LtE (.int (rs.length : Int)) (.int 1000) = some (decide ((rs.length : Int) ≤ 1000)) := cmp_le_int _ _
  have ha := allD_ruleRow g rs
  have hl : lenD (.tuple rs) = some (.int rs.length) := rfl
  have ht : tyD .tup (.tuple rs) = true := rfl
  rw [cf_succ h.bk]
  unfold bookOk
  generalize decide ((rs.length : Int) ≤ 1000) = b1 at le ⊢
  generalize rs.all (isRuleOf g) = b2 at ha ⊢
  generalize ruleRow g rs = rr at hcm ha
  generalize bookD g rs = bd at c1 i0 i1 hcm ⊢
  generalize PyData.tuple rs = td at i1 hl ht
  generalize gD g = gg at c2 i0
  cases b1 <;> simp [runF, Fn.is_book, RV.passes, RV.isDat, c1, i0, i1, c2, ht, bltD, un, hl, le, hcm, ha]
/-- what is no pair of a ground and a tuple -/
def bookNo : PyData → Bool
  | .tuple [x, .tuple _] => !isGround x
  | _ => true
theorem c_book_no (h : HasBook P) (k : Nat) (d : PyData) (hd : okT d = true) (hn : bookNo d = true) (mh : MH) : (CF P sub (k + 4)).call 249 [.dat d] mh = .ok (.dat (.bool false)) mh := by
  have c1 := fun mh => c_is_pair (sub := sub) h.pa (k + 2) d mh
  rw [cf_succ h.bk]
  cases e : isPair d with
  | false =>
    rw [e] at c1
    simp [runF, Fn.is_book, RV.passes, RV.isDat, c1]
  | true =>
    rw [e] at c1
    obtain ⟨x, y, rfl⟩ := isPair_shape e
    have hx : okD x = true := okD_mem (xs := [x, y]) hd (by simp)
    have c2 := fun mh => c_is_ground (sub := sub) h.toHasGround k x mh hx
    cases e2 : isGround x with
    | false =>
      rw [e2] at c2
      simp [runF, Fn.is_book, RV.passes, RV.isDat, c1, idx2_0, c2]
    | true =>
      rw [e2] at c2
      cases y with
      | tuple ys =>
        have : (!isGround x) = true := hn
        rw [e2] at this; cases this
      | _ => simp [runF, Fn.is_book, RV.passes, RV.isDat, c1, idx2_0, idx2_1, c2, tyD]
theorem c_ask_book (h : HasBook P) (k : Nat) (d : PyData) (b : Bool) (hb : ∀ mh, (CF P sub k).call 249 [.dat d] mh = .ok (.dat (.bool b)) mh) (mh : MH) : (CF P sub (k + 1)).call 183 [.dat d] mh = if b then .ok (.dat .none) mh else .exc ⟨11, none⟩ mh := by
  rw [cf_succ h.ab]
  cases b <;> simp [runF, Fn.ask_book, RV.passes, RV.isDat, hb]
/-! ### rules, as such -/
inductive Rule where
  | only (a : Str) (ws : List Str)
  | pairs (a b : Str) (ps : List (Str × Str))
  | either (a u b w : Str)
def ruleD : Rule → PyData
  | .only a ws => .tuple [.str "only", .str a, tS ws]
  | .pairs a b ps => .tuple [.str "pairs", .str a, .str b, .tuple (ps.map pD)]
  | .either a u b w => .tuple [.str "either", .str a, .str u, .str b, .str w]
def ruleIn (g : Gr) : Rule → Prop
  | .only a _ => (look g a).isSome = true
  | .pairs a b _ => (look g a).isSome = true ∧ (look g b).isSome = true
  | .either a _ b _ => (look g a).isSome = true ∧ (look g b).isSome = true
theorem isWord_str {x : PyData} {ws : List Str} (h : isWord x ws = true) : ∃ s, x = .str s ∧ s ∈ ws := by
  cases x with
  | str s => exact ⟨s, rfl, of_decide_eq_true h⟩
  | _ => cases h
theorem ruleO_shape {g : Gr} {s a : Str} {x : PyData} (h : ruleO g s a x = true) : ∃ r, PyData.tuple [.str s, .str a, x] = ruleD r ∧ ruleIn g r := by
  unfold ruleO at h
  cases hw : look g a with
  | none => rw [hw] at h; cases h
  | some wa =>
    rw [hw] at h
    have h : (decide (s = "only") && onlyOk x wa) = true := h
    rw [Bool.and_eq_true] at h
    have e := of_decide_eq_true h.1
    subst e
    have h2 : (isWorths x 0 8 && _) = true := h.2
    rw [Bool.and_eq_true] at h2
    obtain ⟨ws, rfl⟩ := isWorths_tup h2.1
    exact ⟨.only a ws, rfl, by show (look g a).isSome = true; rw [hw]; rfl⟩
theorem ruleP_shape {g : Gr} {s a b : Str} {y : PyData} (h : ruleP g s a b y = true) : ∃ r, PyData.tuple [.str s, .str a, .str b, y] = ruleD r ∧ ruleIn g r := by
  unfold ruleP at h
  cases hw : look g a with
  | none => rw [hw] at h; cases h
  | some wa =>
    cases hv : look g b with
    | none => rw [hw, hv] at h; cases h
    | some wb =>
      rw [hw, hv] at h
      have h : (decide (s = "pairs") && (!decide (b = a) && isRowsOf y wa wb)) = true := h
      simp only [Bool.and_eq_true] at h
      have e := of_decide_eq_true h.1
      subst e
      cases y with
      | tuple ys =>
        have h3 : (ys.all (rowOk wa wb) && (riseD ys && oneOne ys)) = true := h.2.2
        rw [Bool.and_eq_true] at h3
        obtain ⟨es, rfl, _⟩ := rows_shape h3.1
        exact ⟨.pairs a b es, rfl, by show (look g a).isSome = true; rw [hw]; rfl, by show (look g b).isSome = true; rw [hv]; rfl⟩
      | _ => cases h.2.2
theorem ruleE_shape {g : Gr} {s a b : Str} {x z : PyData} (h : ruleE g s a x b z = true) : ∃ r, PyData.tuple [.str s, .str a, x, .str b, z] = ruleD r ∧ ruleIn g r := by
  unfold ruleE at h
  cases hw : look g a with
  | none => rw [hw] at h; cases h
  | some wa =>
    cases hv : look g b with
    | none => rw [hw, hv] at h; cases h
    | some wb =>
      rw [hw, hv] at h
      have h : (decide (s = "either") && (!decide (b = a) && (isWord x wa && isWord z wb))) = true := h
      simp only [Bool.and_eq_true] at h
      have e := of_decide_eq_true h.1
      subst e
      obtain ⟨u, rfl, _⟩ := isWord_str h.2.2.1
      obtain ⟨w, rfl, _⟩ := isWord_str h.2.2.2
      exact ⟨.either a u b w, rfl, by show (look g a).isSome = true; rw [hw]; rfl, by show (look g b).isSome = true; rw [hv]; rfl⟩
theorem rule_shape {g : Gr} : ∀ {d : PyData}, isRuleOf g d = true → ∃ r, d = ruleD r ∧ ruleIn g r := by
  intro d h
  unfold isRuleOf at h
  split at h
  · exact ruleO_shape h
  · exact ruleP_shape h
  · exact ruleE_shape h
  · cases h
/-! ### what is told -/
abbrev Tl := List (Str × Str)
def tK (t : Tl) : List (PyData × PyData) := t.map fun p => (.str p.1, .str p.2)
def lk : Tl → Str → Option Str
  | [], _ => none
  | (a, w) :: t, s => if a = s then some w else lk t s
theorem dget_tK (s : Str) : ∀ t : Tl, dget (tK t) (.str s) = (lk t s).map .str
  | [] => rfl
  | (a, w) :: t => by
    show (if keyEq (.str a) (.str s) then some (PyData.str w) else dget (tK t) (.str s)) = (if a = s then some w else lk t s).map .str
    rw [dget_tK s t]
    by_cases h : a = s
    · simp [keyEq, key1Eq, h]
    · simp [keyEq, key1Eq, h]
theorem kind_tK (s : Str) (t : Tl) : kindOk (tK t) (.str s) = true := by
  have : ((tK t).all fun p => isKey1 p.1) = true := by
    rw [List.all_eq_true]; intro p hp
    obtain ⟨q, _, rfl⟩ := List.mem_map.mp hp
    rfl
  unfold kindOk
  rw [this]
  rfl
theorem idx_tK (t : Tl) (s : Str) : idxD (.dict (tK t)) (.str s) = (lk t s).map .str := by
  show (if kindOk (tK t) (.str s) then dget (tK t) (.str s) else none) = _
  rw [kind_tK, dget_tK, if_pos rfl]
theorem put_tK {t : Tl} {p : Str × Str} (h : p.1 ∉ t.map (·.1)) : dput (tK t) (.str p.1) (.str p.2) = tK (t ++ [p]) := by
  have : ((tK t).any fun q => keyEq q.1 (.str p.1)) = false := by
    rw [List.any_eq_false]; intro q hq
    obtain ⟨r, hr, rfl⟩ := List.mem_map.mp hq
    have hne : r.1 ≠ p.1 := fun e => h (by rw [← e]; exact List.mem_map_of_mem hr)
    simp [keyEq, key1Eq, hne]
  unfold dput
  rw [this]
  simp [tK]
theorem pairs_tK : ∀ (t acc : Tl), ((acc ++ t).map (·.1)).Nodup → pairsD (t.map pD) (tK acc) = some (tK (acc ++ t))
  | [], acc, _ => by simp [pairsD]
  | p :: t, acc, h => by
    have hn : p.1 ∉ acc.map (·.1) := fun hm => by
      rw [List.map_append, List.map_cons] at h
      exact (List.nodup_append.mp h).2.2 p.1 hm p.1 List.mem_cons_self rfl
    have ih := pairs_tK t (acc ++ [p]) (by rw [List.append_assoc]; exact h)
    rw [List.append_assoc] at ih
    show (if isKey1 (.str p.1) then pairsD (t.map pD) (dput (tK acc) (.str p.1) (.str p.2)) else none) = _
    rw [put_tK hn]
    exact ih
def tellL (g : Gr) (ss : List Str) : Tl := (g.map (·.1)).zip ss
theorem zip_pD : ∀ as bs : List Str, zipD2 (as.map .str) (bs.map .str) = (as.zip bs).map pD
  | [], _ => rfl
  | _ :: _, [] => rfl
  | a :: as, b :: bs => by
    show PyData.tuple [.str a, .str b] :: zipD2 (as.map .str) (bs.map .str) = _
    rw [zip_pD as bs]; rfl
theorem tell_keys : ∀ (g : Gr) (ss : List Str), ss.length = g.length → (tellL g ss).map (·.1) = g.map (·.1)
  | [], [], _ => rfl
  | p :: g, s :: ss, h => by
    show p.1 :: (tellL g ss).map (·.1) = p.1 :: g.map (·.1)
    rw [tell_keys g ss (by simpa using h)]
  | [], _ :: _, h => by simp at h
  | _ :: _, [], h => by simp at h
theorem lk_some : ∀ {g : Gr} {ss : List Str} {a : Str}, ss.length = g.length → (look g a).isSome = true → ∃ w, lk (tellL g ss) a = some w
  | [], _, a, _, h => by cases h
  | p :: g, [], a, hl, _ => by simp at hl
  | p :: g, s :: ss, a, hl, h => by
    obtain ⟨n, ws⟩ := p
    show ∃ w, (if n = a then some s else lk (tellL g ss) a) = some w
    have h : (if n = a then some ws else look g a).isSome = true := h
    by_cases e : n = a
    · exact ⟨s, by rw [if_pos e]⟩
    · rw [if_neg e] at h ⊢
      exact lk_some (by simpa using hl) h
theorem c_leaves (hP : P 315 = some Fn.leaves_of) (k : Nat) (g : Gr) (hb : big g.length = true) (mh : MH) : (CF P sub (k + 1)).call 315 [.dat (gD g)] mh = .ok (.dat (.list ((g.map (·.1)).map .str))) mh := by
  rw [cf_succ hP]
  have hi : itemsD (gD g) = some (g.map leafD) := rfl
  have e := ev_map (C := CF P sub k) (elt := .var 1) (tg := .cons (.nm 1) (.cons (.nm 2) .nil)) (it := .of (.var 0)) (c := .cst (.bool true)) (own := [1, 2]) (env := [some (.dat (gD g)), none, none]) (mh := mh) (mh1 := mh) (xs := g.map leafD) (f := fst2) (by simp [evIt, hi]) (by rw [List.length_map]; exact hb) fun x hx => by
    obtain ⟨p, _, rfl⟩ := List.mem_map.mp hx
    simp [cmpTurn, bindT, wipeM, leafD, fst2]
  have e2 : (g.map leafD).map fst2 = (g.map (·.1)).map .str := by rw [List.map_map, List.map_map]; rfl
  rw [e2] at e
  generalize gD g = gg at e ⊢
  simp [runF, Fn.leaves_of, RV.passes, e]
theorem c_told (hl : P 315 = some Fn.leaves_of) (hP : P 384 = some Fn.told_of) (k : Nat) (g : Gr) (hg : (g.map (·.1)).Nodup) (hb : big g.length = true) (ss : List Str) (hs : ss.length = g.length) (mh : MH) : (CF P sub (k + 2)).call 384 [.dat (gD g), .dat (tS ss)] mh = .ok (.dat (.dict (tK (tellL g ss)))) mh := by
  rw [cf_succ hP]
  have c := fun mh => c_leaves (sub := sub) hl k g hb mh
  have s1 : seqD (.list ((g.map (·.1)).map .str)) = some ((g.map (·.1)).map .str) := rfl
  have s2 : seqD (tS ss) = some (ss.map .str) := rfl
  have z := zip_pD (g.map (·.1)) ss
  have d : dctD (.list ((tellL g ss).map pD)) = some (.dict (tK (tellL g ss))) := by
    show (pairsD ((tellL g ss).map pD) (tK [])).map PyData.dict = _
    rw [pairs_tK (tellL g ss) [] (by rw [List.nil_append, tell_keys g ss hs]; exact hg)]; rfl
  have z : zipD2 ((g.map (·.1)).map .str) (ss.map .str) = (tellL g ss).map pD := z
  generalize tK (tellL g ss) = tk at d ⊢
  generalize (tellL g ss).map pD = tp at z d
  generalize tS ss = sd at s2 ⊢
  generalize PyData.list ((g.map (·.1)).map .str) = ld at c s1
  generalize (g.map (·.1)).map PyData.str = ln at s1 z
  generalize ss.map PyData.str = sn at s2 z
  generalize gD g = gg at c ⊢
  simp [runF, Fn.told_of, RV.passes, RV.isDat, c, s1, s2, z, bltD, un, d]
end Mn
end
section
set_option linter.all false
set_option autoImplicit false
set_option maxRecDepth 100000
namespace Mn
open PySem
variable {P : Nat → Option FDef} {sub : Nat → Nat → Option Bool}
theorem eqv_pD (e f : Str × Str) : PyData.eqv (pD e) (pD f) = decide (e = f) := by
  unfold pD
  rw [PyData.eqv, PyData.eqvAll, PyData.eqvAll, PyData.eqvAll, eqv_str, eqv_str]
  obtain ⟨a, b⟩ := e
  obtain ⟨c, d⟩ := f
  by_cases h1 : a = c <;> by_cases h2 : b = d <;> simp [h1, h2]
theorem plainA_pD : ∀ es : List (Str × Str), PyData.plainAll (es.map pD) = true
  | [] => rfl
  | e :: es => by
    have := plainA_pD es
    simp [PyData.plainAll, PyData.plain, pD, this]
theorem depthA_pD : ∀ es : List (Str × Str), PyData.depthAll (es.map pD) ≤ 2
  | [] => by simp [PyData.depthAll]
  | e :: es => by
    have := depthA_pD es
    simp only [List.map_cons, PyData.depthAll]
    have h2 : (pD e).depth ≤ 2 := by simp [pD, PyData.depth, PyData.depthAll]
    omega
theorem depOk_rows (es : List (Str × Str)) : depOk (.tuple (es.map pD)) = true := by
  have h := depthA_pD es
  simp [depOk, PyData.plain, PyData.depth, plainA_pD]
  omega
theorem any_pD (e : Str × Str) : ∀ es : List (Str × Str), (es.map pD).any (fun z => PyData.eqv z (pD e)) = decide (e ∈ es)
  | [] => rfl
  | f :: es => by
    rw [List.map_cons, List.any_cons, any_pD e es, eqv_pD]
    by_cases h : f = e
    · simp [h]
    · have : ¬ e = f := fun q => h q.symm
      simp [h, this]
theorem in_rows (e : Str × Str) (es : List (Str × Str)) : cmpD .In (pD e) (.tuple (es.map pD)) = some (decide (e ∈ es)) := by
  show (if depOk (pD e) && depOk (.tuple (es.map pD)) then some ((es.map pD).any fun z => PyData.eqv z (pD e)) else none) = _
  rw [depOk_pD, depOk_rows, any_pD]
  rfl
/-- does what is told keep the rule? -/
def keepsR (t : Tl) : Rule → Bool
  | .only a ws => (match lk t a with
    | some u => decide (u ∈ ws)
    | none => false)
  | .pairs a b ps => (match lk t a, lk t b with
    | some u, some w => decide ((u, w) ∈ ps)
    | _, _ => false)
  | .either a u b w => (match lk t a, lk t b with
    | some x, some y => decide (x = u) || decide (y = w)
    | _, _ => false)
def lkIn (t : Tl) : Rule → Prop
  | .only a _ => ∃ u, lk t a = some u
  | .pairs a b _ => (∃ u, lk t a = some u) ∧ ∃ w, lk t b = some w
  | .either a _ b _ => (∃ u, lk t a = some u) ∧ ∃ w, lk t b = some w
theorem lkIn_of {g : Gr} {ss : List Str} (hl : ss.length = g.length) {r : Rule} (h : ruleIn g r) : lkIn (tellL g ss) r := by
  cases r with
  | only a ws => exact lk_some hl h
  | pairs a b ps => exact ⟨lk_some hl h.1, lk_some hl h.2⟩
  | either a u b w => exact ⟨lk_some hl h.1, lk_some hl h.2⟩
theorem r_keeps (C : CallF) (t : Tl) (r : Rule) (h : lkIn t r) (mh : MH) : runF C Fn.keeps_rule [.dat (ruleD r), .dat (.dict (tK t))] mh = .ok (.dat (.bool (keepsR t r))) mh := by
  have io := idx_tK t
  have eO : ∀ s : Str, cmpD .Eq (.str s) (.str ("only" : Str)) = some (decide (s = "only")) := fun s => eq_str s "only"
  have eP : ∀ s : Str, cmpD .Eq (.str s) (.str ("pairs" : Str)) = some (decide (s = "pairs")) := fun s => eq_str s "pairs"
  cases r with
  | only a ws =>
    obtain ⟨u, hu⟩ := h
    have g := io a
    rw [hu] at g
    have g : idxD (.dict (tK t)) (.str a) = some (.str u) := g
    have i0 : idxD (ruleD (.only a ws)) (.int 0) = some (.str "only") := rfl
    have i1 : idxD (ruleD (.only a ws)) (.int 1) = some (.str a) := rfl
    have i2 : idxD (ruleD (.only a ws)) (.int 2) = some (tS ws) := rfl
    have hi := in_tS u ws
    have e1 := eO "only"
    rw [decide_eq_true (rfl : ("only" : Str) = "only")] at e1
    have k : keepsR t (.only a ws) = decide (u ∈ ws) := by
      show (match lk t a with | some u => decide (u ∈ ws) | none => false) = _
      rw [hu]
    rw [k]
    generalize decide (u ∈ ws) = b at hi ⊢
    generalize ruleD (.only a ws) = rd at i0 i1 i2 ⊢
    generalize PyData.dict (tK t) = td at g ⊢
    generalize tS ws = wd at i2 hi
    simp [runF, Fn.keeps_rule, RV.passes, i0, i1, i2, e1, g, hi]
  | pairs a b ps =>
    obtain ⟨⟨u, hu⟩, ⟨w, hw⟩⟩ := h
    have g := io a
    rw [hu] at g
    have g : idxD (.dict (tK t)) (.str a) = some (.str u) := g
    have g' := io b
    rw [hw] at g'
    have g' : idxD (.dict (tK t)) (.str b) = some (.str w) := g'
    have i0 : idxD (ruleD (.pairs a b ps)) (.int 0) = some (.str "pairs") := rfl
    have i1 : idxD (ruleD (.pairs a b ps)) (.int 1) = some (.str a) := rfl
    have i2 : idxD (ruleD (.pairs a b ps)) (.int 2) = some (.str b) := rfl
    have i3 : idxD (ruleD (.pairs a b ps)) (.int 3) = some (.tuple (ps.map pD)) := rfl
    have hi : cmpD .In (.tuple [.str u, .str w]) (.tuple (ps.map pD)) = some (decide ((u, w) ∈ ps)) := in_rows (u, w) ps
    have e1 := eO "pairs"
    rw [decide_eq_false ne_only_pairs] at e1
    have e2 := eP "pairs"
    rw [decide_eq_true (rfl : ("pairs" : Str) = "pairs")] at e2
    have k : keepsR t (.pairs a b ps) = decide ((u, w) ∈ ps) := by
      show (match lk t a, lk t b with | some u, some w => decide ((u, w) ∈ ps) | _, _ => false) = _
      rw [hu, hw]
    rw [k]
    generalize decide ((u, w) ∈ ps) = bb at hi ⊢
    generalize ruleD (.pairs a b ps) = rd at i0 i1 i2 i3 ⊢
    generalize PyData.dict (tK t) = td at g g' ⊢
    generalize PyData.tuple (ps.map pD) = pd at i3 hi
    simp [runF, Fn.keeps_rule, RV.passes, i0, i1, i2, i3, e1, e2, g, g', hi, big]
  | either a u b w =>
    obtain ⟨⟨x, hx⟩, ⟨y, hy⟩⟩ := h
    have g := io a
    rw [hx] at g
    have g : idxD (.dict (tK t)) (.str a) = some (.str x) := g
    have g' := io b
    rw [hy] at g'
    have g' : idxD (.dict (tK t)) (.str b) = some (.str y) := g'
    have i0 : idxD (ruleD (.either a u b w)) (.int 0) = some (.str "either") := rfl
    have i1 : idxD (ruleD (.either a u b w)) (.int 1) = some (.str a) := rfl
    have i2 : idxD (ruleD (.either a u b w)) (.int 2) = some (.str u) := rfl
    have i3 : idxD (ruleD (.either a u b w)) (.int 3) = some (.str b) := rfl
    have i4 : idxD (ruleD (.either a u b w)) (.int 4) = some (.str w) := rfl
    have e1 := eO "either"
    rw [decide_eq_false ne_only_either] at e1
    have e2 := eP "either"
    rw [decide_eq_false ne_either_pairs] at e2
    have q1 := eq_str x u
    have q2 := eq_str y w
    have k : keepsR t (.either a u b w) = (decide (x = u) || decide (y = w)) := by
      show (match lk t a, lk t b with | some x, some y => decide (x = u) || decide (y = w) | _, _ => false) = _
      rw [hx, hy]
    rw [k]
    generalize decide (x = u) = b1 at q1 ⊢
    generalize decide (y = w) = b2 at q2 ⊢
    generalize ruleD (.either a u b w) = rd at i0 i1 i2 i3 i4 ⊢
    generalize PyData.dict (tK t) = td at g g' ⊢
    cases b1 <;> simp [runF, Fn.keeps_rule, RV.passes, i0, i1, i2, i3, i4, e1, e2, g, g', q1, q2]
theorem c_keeps (hP : P 300 = some Fn.keeps_rule) (k : Nat) (t : Tl) (r : Rule) (h : lkIn t r) (mh : MH) : (CF P sub (k + 1)).call 300 [.dat (ruleD r), .dat (.dict (tK t))] mh = .ok (.dat (.bool (keepsR t r))) mh := by
  rw [cf_succ hP, r_keeps _ _ _ h]
theorem c_lkeeps (hP : P 82 = some Fn.x_law_keeps) (k : Nat) (t : Tl) (r : Rule) (h : lkIn t r) (mh : MH) : (CF P sub (k + 1)).call 82 [.dat (ruleD r), .dat (.dict (tK t))] mh = .ok (.dat (.bool (keepsR t r))) mh := by
  rw [cf_succ hP]
  exact r_keeps _ _ _ h _
/-! ### the numbers of the rules that are not kept -/
def unkept (t : Tl) (rs : List Rule) : List Nat := (List.range rs.length).filter fun i => match rs[i]? with
  | some r => !keepsR t r
  | none => false
def unkeptD (t : Tl) (rs : List Rule) : List PyData := (unkept t rs).map fun i : Nat => PyData.int (i : Int)
theorem enumD_map : ∀ (n : Nat) (xs : List PyData), enumD n xs = (List.range xs.length).map fun i => .tuple [.int ((n + i : Nat) : Int), xs.getD i .none]
  | _, [] => rfl
  | n, x :: xs => by
    rw [enumD, enumD_map (n + 1) xs, List.length_cons, List.range_succ_eq_map, List.map_cons, List.map_map]
    congr 1
    apply List.map_congr_left
    intro i _
    show PyData.tuple [.int ((n + 1 + i : Nat) : Int), xs.getD i .none] = .tuple [.int ((n + (i + 1) : Nat) : Int), (x :: xs).getD (i + 1) .none]
    rw [show n + 1 + i = n + (i + 1) by omega]
    rfl
theorem filterMap_if {α β : Type} (p : α → Bool) (f : α → β) : ∀ xs : List α, xs.filterMap (fun x => if p x then some (f x) else none) = (xs.filter p).map f
  | [] => rfl
  | x :: xs => by
    cases h : p x <;> simp [h, filterMap_if p f xs]
structure HasBroken (P : Nat → Option FDef) : Prop extends HasBook P where
  lv : P 315 = some Fn.leaves_of
  to_ : P 384 = some Fn.told_of
  kp : P 300 = some Fn.keeps_rule
  br : P 209 = some Fn.broken_by
theorem c_state_of (h : HasBook P) (k : Nat) (g : Gr) (d : PyData) (mh : MH) (hd : okT d = true) : (CF P sub (k + 2)).call 285 [.dat (gD g), .dat d] mh = .ok (.dat (.bool (isStateOf g d))) mh := by
  rw [cf_succ h.so]
  cases d with
  | tuple xs =>
    have hd' : (big xs.length && okD.okA xs) = true := hd
    rw [Bool.and_eq_true] at hd'
    have l1 : cmpD .NotEq (.int (xs.length : Int)) (.int (g.length : Int)) = some (!decide ((xs.length : Int) = (g.length : Int))) := cmp_ne_int _ _
    have lg : lenD (gD g) = some (.int (g.length : Int)) := by simp [lenD, gD]
    have sg : seqD (gD g) = some (g.map leafD) := rfl
    have cw := fun x ws mh => c_is_word (sub := sub) h.wd k x ws mh
    have hcm : (evP (CF P sub (k + 1)) (.comp (.pcall 294 (.cons (.var 2) (.cons (.idx (.var 3) (.cst (.int 1))) .nil))) (.cons (.nm 2) (.cons (.nm 3) .nil)) (.zip2 (.var 1) (.var 0)) (.cst (.bool true)) [2, 3])).1 [some (.dat (gD g)), some (.dat (.tuple xs)), none, none] mh = .ok (.dat (boolsL (stateRow xs g))) mh := by
      unfold boolsL
      rw [← stateRow_zip wordTurn wordTurn_leaf]
      refine ev_map (mh1 := mh) (xs := zipD2 xs (g.map leafD)) (f := wordTurn) (by simp [evIt, seqD, sg]; rfl) (decide_eq_true (Nat.le_trans (zip_len xs g) (of_decide_eq_true hd'.1))) fun z hz => ?_
      obtain ⟨x, p, rfl⟩ := zip_mem hz
      have h1 : idxD (leafD p) (.int 1) = some (tS p.2) := rfl
      rw [wordTurn_leaf]
      simp [cmpTurn, bindT, wipeM, h1, cw, RV.isDat]
    cases e1 : decide ((xs.length : Int) = (g.length : Int)) <;>
      simp [runF, Fn.is_state_of, RV.passes, RV.isDat, tyD, bltD, un, lenD_tuple, lg, l1, e1, isStateOf, hcm, allD_boolsL, -decide_eq_true_eq, -List.all_eq_true, -decide_eq_false_iff_not, -List.all_eq_false]
  | _ => simp [runF, Fn.is_state_of, RV.passes, RV.isDat, tyD, isStateOf]
end Mn
end
section
set_option linter.all false
set_option autoImplicit false
set_option maxRecDepth 100000
namespace Mn
open PySem
variable {P : Nat → Option FDef} {sub : Nat → Nat → Option Bool}
theorem stateOf_len {g : Gr} {ss : List Str} (h : isStateOf g (tS ss) = true) : ss.length = g.length := by
  have h' : (decide (((ss.map PyData.str).length : Int) = (g.length : Int)) && (stateRow (ss.map .str) g).all id) = true := h
  rw [Bool.and_eq_true] at h'
  have := of_decide_eq_true h'.1
  rw [List.length_map] at this
  omega
theorem fm_congr {α β : Type} {f g : α → Option β} : ∀ {l : List α}, (∀ x ∈ l, f x = g x) → l.filterMap f = l.filterMap g
  | [], _ => rfl
  | x :: l, h => by
    rw [List.filterMap_cons, List.filterMap_cons, h x List.mem_cons_self, fm_congr fun y hy => h y (List.mem_cons_of_mem _ hy)]
/-- the comprehension of broken_by -/
theorem itC_broken (h : HasBroken P) (k : Nat) (bd : PyData) (rs : List Rule) (t : Tl) (ht : ∀ r ∈ rs, lkIn t r) (i1 : idxD bd (.int 1) = some (.tuple (rs.map ruleD))) (hb : big rs.length = true) (x1 : Option RV) (mh : MH) :
    (evP (CF P sub (k + 1)) (.comp (.var 3) (.cons (.nm 3) (.cons (.nm 4) .nil)) (.enum (.idx (.var 0) (.cst (.int 1)))) (.not_ (.pcall 300 (.cons (.var 4) (.cons (.var 2) .nil)))) [3, 4])).1 [some (.dat bd), x1, some (.dat (.dict (tK t))), none, none] mh = .ok (.dat (.list (unkeptD t rs))) mh := by
  have hs : seqD (.tuple (rs.map ruleD)) = some (rs.map ruleD) := rfl
  have e := ev_comp (C := CF P sub (k + 1)) (elt := .var 3) (tg := .cons (.nm 3) (.cons (.nm 4) .nil)) (it := .enum (.idx (.var 0) (.cst (.int 1)))) (c := .not_ (.pcall 300 (.cons (.var 4) (.cons (.var 2) .nil)))) (own := [3, 4]) (env := [some (.dat bd), x1, some (.dat (.dict (tK t))), none, none]) (mh := mh) (mh1 := mh) (xs := enumD 0 (rs.map ruleD))
    (f := fun d => match d with
      | .tuple [.int i, _] => (match rs[i.toNat]? with
        | some r => if !keepsR t r then some (.int i) else none
        | none => none)
      | _ => none)
    (by simp [evIt, i1, hs]) (by rw [enumD_map, List.length_map, List.length_range, List.length_map]; exact hb) fun x hx => by
    rw [enumD_map] at hx
    obtain ⟨i, hi, rfl⟩ := List.mem_map.mp hx
    have hi := List.mem_range.mp hi
    rw [List.length_map] at hi
    have e1 : rs[i]? = some rs[i] := List.getElem?_eq_getElem hi
    have e2 : (rs.map ruleD).getD i .none = ruleD rs[i] := by rw [List.getD_eq_getElem?_getD, List.getElem?_map, e1]; rfl
    have c := c_keeps (sub := sub) h.kp k t rs[i] (ht _ (List.getElem_mem hi))
    have e3 : (0 + i : Nat) = i := by omega
    have e4 : (((0 + i : Nat) : Int)).toNat = i := by omega
    rw [e2]
    show _ = Out.ok (match rs[(((0 + i : Nat) : Int)).toNat]? with | some r => if !keepsR t r then some (PyData.int ((0 + i : Nat) : Int)) else none | none => none) mh
    rw [e4, e1, e3]
    show _ = Out.ok (if !keepsR t rs[i] then some (PyData.int (i : Int)) else none) mh
    generalize keepsR t rs[i] = b at c ⊢
    generalize ruleD rs[i] = rd at c ⊢
    generalize PyData.dict (tK t) = td at c ⊢
    cases b <;> simp [cmpTurn, bindT, wipeM, RV.isDat, c]
  rw [e, enumD_map, List.filterMap_map]
  congr 3
  unfold unkeptD unkept
  rw [List.length_map, ← filterMap_if]
  refine fm_congr fun i hi => ?_
  have hi := List.mem_range.mp hi
  have e1 : rs[i]? = some rs[i] := List.getElem?_eq_getElem hi
  have e4 : (((0 + i : Nat) : Int)).toNat = i := by omega
  show (match rs[(((0 + i : Nat) : Int)).toNat]? with | some r => if !keepsR t r then some (PyData.int ((0 + i : Nat) : Int)) else none | none => none) = if (match rs[i]? with | some r => !keepsR t r | none => false) = true then some (PyData.int (i : Int)) else none
  rw [e4, e1]
  show (if (!keepsR t rs[i]) = true then some (PyData.int ((0 + i : Nat) : Int)) else none) = _
  rw [show (0 + i : Nat) = i by omega]
theorem c_broken (h : HasBroken P) (k : Nat) (g : Gr) (hg : RightG g) (rs : List Rule) (hr : okD (.tuple (rs.map ruleD)) = true) (hok : bookOk g (rs.map ruleD) = true) (hin : ∀ r ∈ rs, ruleIn g r) (ss : List Str) (hs : isStateOf g (tS ss) = true) (hso : okT (tS ss) = true) (mh : MH) :
    (CF P sub (k + 6)).call 209 [.dat (bookD g (rs.map ruleD)), .dat (tS ss)] mh = .ok (.dat (.tuple (unkeptD (tellL g ss) rs))) mh := by
  have cb : ∀ mh, (CF P sub (k + 4)).call 249 [.dat (bookD g (rs.map ruleD))] mh = .ok (.dat (.bool true)) mh := fun mh => by rw [← hok]; exact c_book (sub := sub) h.toHasBook k g hg _ hr mh
  have ca : ∀ mh, (CF P sub (k + 5)).call 183 [.dat (bookD g (rs.map ruleD))] mh = .ok (.dat .none) mh := fun mh => c_ask_book (sub := sub) h.toHasBook (k + 4) _ true cb mh
  have cs : ∀ mh, (CF P sub (k + 5)).call 285 [.dat (gD g), .dat (tS ss)] mh = .ok (.dat (.bool true)) mh := fun mh => by rw [← hs]; exact c_state_of (sub := sub) h.toHasBook (k + 3) g _ mh hso
  have hl := stateOf_len hs
  have hgl := ground_len hg.gr
  have ct : ∀ mh, (CF P sub (k + 5)).call 384 [.dat (gD g), .dat (tS ss)] mh = .ok (.dat (.dict (tK (tellL g ss)))) mh := fun mh => c_told (sub := sub) h.lv h.to_ (k + 3) g (ground_nodup hg.gr) (decide_eq_true (by omega)) ss hl mh
  have i0 : idxD (bookD g (rs.map ruleD)) (.int 0) = some (gD g) := rfl
  have hbr : big rs.length = true := by
    have h' : (big (rs.map ruleD).length && okD.okA (rs.map ruleD)) = true := hr
    rw [Bool.and_eq_true, List.length_map] at h'
    exact h'.1
  have hc := fun x1 mh => itC_broken (sub := sub) h (k + 4) (bookD g (rs.map ruleD)) rs (tellL g ss) (fun r hr => lkIn_of hl (hin r hr)) rfl hbr x1 mh
  rw [cf_succ h.br]
  generalize unkeptD (tellL g ss) rs = ud at hc ⊢
  generalize PyData.dict (tK (tellL g ss)) = td at ct hc
  generalize bookD g (rs.map ruleD) = bd at ca i0 hc ⊢
  generalize gD g = gg at cs ct i0
  generalize tS ss = sd at cs ct hc ⊢
  simp [runF, Fn.broken_by, RV.passes, RV.isDat, ca, i0, cs, ct, bindT, hc, bltD, un, tupD]
/-- no book: NoBook -/
theorem c_broken_nobook (h : HasBroken P) (k : Nat) (d x : PyData) (hd : ∀ mh, (CF P sub k).call 249 [.dat d] mh = .ok (.dat (.bool false)) mh) (mh : MH) : (CF P sub (k + 2)).call 209 [.dat d, .dat x] mh = .exc ⟨11, none⟩ mh := by
  have ca : ∀ mh, (CF P sub (k + 1)).call 183 [.dat d] mh = .exc ⟨11, none⟩ mh := fun mh => c_ask_book (sub := sub) h.toHasBook k d false hd mh
  rw [cf_succ h.br]
  simp [runF, Fn.broken_by, RV.passes, RV.isDat, ca]
/-- no state: NoState -/
theorem c_broken_nostate (h : HasBroken P) (k : Nat) (g : Gr) (hg : RightG g) (rs : List PyData) (hr : okD (.tuple rs) = true) (hok : bookOk g rs = true) (x : PyData) (hx : isStateOf g x = false) (hxo : okT x = true) (mh : MH) :
    (CF P sub (k + 6)).call 209 [.dat (bookD g rs), .dat x] mh = .exc ⟨29, none⟩ mh := by
  have cb : ∀ mh, (CF P sub (k + 4)).call 249 [.dat (bookD g rs)] mh = .ok (.dat (.bool true)) mh := fun mh => by rw [← hok]; exact c_book (sub := sub) h.toHasBook k g hg _ hr mh
  have ca : ∀ mh, (CF P sub (k + 5)).call 183 [.dat (bookD g rs)] mh = .ok (.dat .none) mh := fun mh => c_ask_book (sub := sub) h.toHasBook (k + 4) _ true cb mh
  have cs : ∀ mh, (CF P sub (k + 5)).call 285 [.dat (gD g), .dat x] mh = .ok (.dat (.bool false)) mh := fun mh => by rw [← hx]; exact c_state_of (sub := sub) h.toHasBook (k + 3) g _ mh hxo
  have i0 : idxD (bookD g rs) (.int 0) = some (gD g) := rfl
  rw [cf_succ h.br]
  generalize bookD g rs = bd at ca i0 ⊢
  generalize gD g = gg at cs i0
  simp [runF, Fn.broken_by, RV.passes, RV.isDat, ca, i0, cs]
end Mn
end
section
set_option linter.all false
set_option autoImplicit false
set_option maxRecDepth 100000
namespace Mn
open PySem
variable {P : Nat → Option FDef} {sub : Nat → Nat → Option Bool}
/-! ### the law's own telling -/
def ltBody : Ss := (.cons (.setI 2 (.idx (.idx (.var 0) (.var 3)) (.cst (.int 0))) (.idx (.var 1) (.var 3))) .nil)
theorem take_keys {t : Tl} {i : Nat} (hn : (t.map (·.1)).Nodup) {p : Str × Str} (hp : t[i]? = some p) : p.1 ∉ (t.take i).map (·.1) := fun hm => by
  have hi : i < t.length := (List.getElem?_eq_some_iff.mp hp).1
  have e : t = t.take i ++ t.drop i := (List.take_append_drop i t).symm
  have ed : t.drop i = p :: t.drop (i + 1) := by
    rw [List.drop_eq_getElem_cons hi]
    rw [List.getElem?_eq_getElem hi] at hp
    cases hp; rfl
  rw [e, List.map_append, ed, List.map_cons] at hn
  exact (List.nodup_append.mp hn).2.2 p.1 hm p.1 List.mem_cons_self rfl
theorem c_lawtold (hP : P 154 = some Fn.x_law_told) (k : Nat) (g : Gr) (hg : (g.map (·.1)).Nodup) (hb : g.length ≤ 1000) (ss : List Str) (hs : ss.length = g.length) (mh : MH) : (CF P sub (k + 1)).call 154 [.dat (gD g), .dat (tS ss)] mh = .ok (.dat (.dict (tK (tellL g ss)))) mh := by
  have hlen : (tellL g ss).length = g.length := by unfold tellL; rw [List.length_zip, List.length_map, hs]; omega
  have hkeys : ((tellL g ss).map (·.1)).Nodup := by rw [tell_keys g ss hs]; exact hg
  obtain ⟨env', mh', e, a, rfl, rfl⟩ := forB_idx (C := CF P sub k) (t := .nm 3) (body := ltBody) (rngD 0 g.length) (fun i env m => ∃ a, env = [some (.dat (gD g)), some (.dat (tS ss)), some (.odct (tK ((tellL g ss).take i))), a] ∧ m = mh) [some (.dat (gD g)), some (.dat (tS ss)), some (.odct []), none] mh ⟨none, by simp [tK], rfl⟩ (by
    rintro i x hx env m ⟨a, rfl, rfl⟩
    obtain ⟨hi, rfl⟩ := rngD_at g.length i x hx
    have hit : i < (tellL g ss).length := by omega
    have his : i < ss.length := by omega
    refine ⟨[some (.dat (gD g)), some (.dat (tS ss)), some (.odct (tK ((tellL g ss).take i))), some (.dat (.int i))], rfl, _, _, ?_, some (.dat (.int i)), rfl, rfl⟩
    have g1 : idxD (gD g) (.int i) = some (leafD g[i]) := by
      show atD (g.map leafD) (i : Int) = _
      rw [atD_nat, List.getElem?_map, List.getElem?_eq_getElem hi]; rfl
    have g2 : idxD (leafD g[i]) (.int 0) = some (.str g[i].1) := rfl
    have g3 : idxD (tS ss) (.int i) = some (.str ss[i]) := by
      show atD (ss.map .str) (i : Int) = _
      rw [atD_nat, List.getElem?_map, List.getElem?_eq_getElem his]; rfl
    have ep : (tellL g ss)[i]? = some (g[i].1, ss[i]) := by
      unfold tellL
      rw [List.getElem?_zip_eq_some]
      exact ⟨by rw [List.getElem?_map, List.getElem?_eq_getElem hi]; rfl, List.getElem?_eq_getElem his⟩
    have htk : (tellL g ss).take (i + 1) = (tellL g ss).take i ++ [(g[i].1, ss[i])] := by rw [List.take_succ, ep]; rfl
    have hall : ((tK ((tellL g ss).take i)).all fun p => isKey1 p.1) = true := by
      rw [List.all_eq_true]; intro p hp
      obtain ⟨q, _, rfl⟩ := List.mem_map.mp hp
      rfl
    have hbig : big ((tK ((tellL g ss).take i)).length + 1) = true := decide_eq_true (by simp [tK]; omega)
    have hput : putC (.dict (tK ((tellL g ss).take i))) (.str g[i].1) (.str ss[i]) = some (.dict (tK ((tellL g ss).take (i + 1)))) := by
      show (if isKey1 (.str g[i].1) && (tK ((tellL g ss).take i)).all (fun p => isKey1 p.1) && big ((tK ((tellL g ss).take i)).length + 1) then some (PyData.dict (dput (tK ((tellL g ss).take i)) (.str g[i].1) (.str ss[i]))) else none) = _
      rw [hall, hbig, htk]
      show some (PyData.dict (dput (tK ((tellL g ss).take i)) (.str g[i].1) (.str ss[i]))) = _
      rw [put_tK (t := (tellL g ss).take i) (p := (g[i].1, ss[i])) (take_keys hkeys ep)]
    generalize tK ((tellL g ss).take i) = k0 at hput ⊢
    generalize tK ((tellL g ss).take (i + 1)) = k1 at hput ⊢
    generalize leafD g[i] = lf at g1 g2
    generalize gD g = gg at g1 ⊢
    generalize tS ss = sd at g3 ⊢
    simp [ltBody, g1, g2, g3, hasAt, upR, hput])
  rw [rngD_len, ← hlen, List.take_length] at e
  rw [cf_succ hP]
  have hl : lenD (gD g) = some (.int (g.length : Int)) := by simp [lenD, gD]
  have hi : ∀ env : MEnv, env[0]? = some (some (.dat (gD g))) → ∀ mh, evItF (CF P sub k) (.rng1 (.blt .len (.cons (.var 0) .nil))) env mh = .ok (rngD 0 g.length) mh := fun env h0 mh => by
    have h1 : (-16777216 : Int) ≤ g.length := by omega
    have h2 : (g.length : Int) ≤ 16777216 := by omega
    simp [evItF, evIt, h0, bltD, un, hl, h1, h2]
  have hi := fun mh => hi [some (.dat (gD g)), some (.dat (tS ss)), some (.odct []), none] rfl mh
  rw [hlen] at e
  unfold ltBody at e
  generalize rngD 0 g.length = rr at hi e
  generalize tK (tellL g ss) = tk at e ⊢
  generalize gD g = gg at hi e ⊢
  generalize tS ss = sd at hi e ⊢
  have hd : dspD [] = some (.dict []) := rfl
  simp [runF, Fn.x_law_told, RV.passes, hd, freshV, isFresh, setN, hi, e, frzR]
/-! ### what is drawn of a row: its parts in their order -/
def subs {α : Type} : List α → List (List α)
  | [] => [[]]
  | x :: xs => subs xs ++ (subs xs).map (x :: ·)
theorem subs_mem {α : Type} : ∀ {l m : List α}, l.Sublist m → l ∈ subs m
  | _, _, .slnil => by simp [subs]
  | _, _, .cons a h => by
    show _ ∈ subs _ ++ _
    exact List.mem_append_left _ (subs_mem h)
  | _, _, .cons_cons a h => by
    show _ ∈ subs _ ++ _
    exact List.mem_append_right _ (List.mem_map_of_mem (subs_mem h))
/-- a comprehension whose turns draw, each giving f of its item or nothing -/
theorem compL_sub {turn : PyData → MH → Out (Option PyData)} {f : PyData → PyData} : ∀ (xs : List PyData), (∀ x ∈ xs, ∀ is, ∃ o js, turn x [.lst (iL is)] = .ok o [.lst (iL js)] ∧ (o = none ∨ o = some (f x))) → ∀ (is : List Int) (acc : List PyData),
    ∃ (ds : List PyData) (js : List Int), compL turn xs [.lst (iL is)] acc = .ok (acc ++ ds) [.lst (iL js)] ∧ ds.Sublist (xs.map f)
  | [], _, is, acc => ⟨[], is, by simp [compL], .slnil⟩
  | x :: xs, ht, is, acc => by
    obtain ⟨o, js, e, hr⟩ := ht x List.mem_cons_self is
    rcases hr with rfl | rfl
    · obtain ⟨ds, js2, e2, hr2⟩ := compL_sub (turn := turn) (f := f) xs (fun p hp => ht p (List.mem_cons_of_mem _ hp)) js acc
      refine ⟨ds, js2, ?_, .cons _ hr2⟩
      unfold compL
      rw [e]
      exact e2
    · obtain ⟨ds, js2, e2, hr2⟩ := compL_sub (turn := turn) (f := f) xs (fun p hp => ht p (List.mem_cons_of_mem _ hp)) js (acc ++ [f x])
      refine ⟨f x :: ds, js2, ?_, .cons_cons _ hr2⟩
      unfold compL
      rw [e]
      show compL turn xs [.lst (iL js)] (acc ++ [f x]) = _
      rw [e2, List.append_assoc]
      rfl
/-- .. each giving a thing that is Q -/
theorem compL_all {turn : PyData → MH → Out (Option PyData)} {Q : PyData → Prop} : ∀ (xs : List PyData), (∀ x ∈ xs, ∀ is, ∃ d js, turn x [.lst (iL is)] = .ok (some d) [.lst (iL js)] ∧ Q d) → ∀ (is : List Int) (acc : List PyData),
    ∃ (ds : List PyData) (js : List Int), compL turn xs [.lst (iL is)] acc = .ok (acc ++ ds) [.lst (iL js)] ∧ ds.length = xs.length ∧ ∀ d ∈ ds, Q d
  | [], _, is, acc => ⟨[], is, by simp [compL], rfl, fun d hd => by cases hd⟩
  | x :: xs, ht, is, acc => by
    obtain ⟨o, js, e, hr⟩ := ht x List.mem_cons_self is
    obtain ⟨ds, js2, e2, hl, hr2⟩ := compL_all (turn := turn) (Q := Q) xs (fun p hp => ht p (List.mem_cons_of_mem _ hp)) js (acc ++ [o])
    refine ⟨o :: ds, js2, ?_, by simp [hl], fun d hd => ?_⟩
    · unfold compL
      rw [e]
      show compL turn xs [.lst (iL js)] (acc ++ [o]) = _
      rw [e2, List.append_assoc]
      rfl
    · rcases List.mem_cons.mp hd with rfl | hd
      · exact hr
      · exact hr2 d hd
end Mn
end
section
set_option linter.all false
set_option autoImplicit false
set_option maxRecDepth 100000
namespace Mn
open PySem
variable {P : Nat → Option FDef} {sub : Nat → Nat → Option Bool}
def fullRows (fa fb : List Str) (sh : Nat) : List (Str × Str) := (List.range (min fa.length fb.length)).map fun k => (fa.getD k Str.empty, fb.getD ((k + sh) % fb.length) Str.empty)
def pwB : List PyData → Bool
  | [] => true
  | x :: xs => (xs.all fun y => !PySem.W.dataLt y x) && pwB xs
def rowsCheck (fa fb : List Str) (rows : List (Str × Str)) : Bool := isRowsOf (.tuple (rows.map pD)) fa fb && (okD (.tuple (rows.map pD)) && pwB (rows.map pD))
theorem rows_good : ∀ fa ∈ gWorths, ∀ fb ∈ gWorths, ∀ sh ∈ [0, 1, 2], ∀ rows ∈ subs (fullRows fa fb sh), rowsCheck fa fb rows = true := by decide +kernel
theorem pwB_pw : ∀ {xs : List PyData}, pwB xs = true → xs.Pairwise fun a b => (!PySem.W.dataLt b a) = true
  | [], _ => .nil
  | x :: xs, h => by
    have h' : ((xs.all fun y => !PySem.W.dataLt y x) && pwB xs) = true := h
    rw [Bool.and_eq_true] at h'
    exact .cons (fun y hy => List.all_eq_true.mp h'.1 y hy) (pwB_pw h'.2)
theorem sort_pD (es : List (Str × Str)) (h : pwB (es.map pD) = true) : sortD (es.map pD) = some (es.map pD) := by
  have h1 : ((es.map pD).all fun x => (es.map pD).all fun y => PySem.W.alike x y) = true := by
    rw [List.all_eq_true]; intro x hx
    rw [List.all_eq_true]; intro y hy
    obtain ⟨e, _, rfl⟩ := List.mem_map.mp hx
    obtain ⟨f, _, rfl⟩ := List.mem_map.mp hy
    simp [PySem.W.alike, PySem.W.alikeAll, pD]
  have h3 : (es.map pD).all depOk = true := by
    rw [List.all_eq_true]; intro x hx
    obtain ⟨e, _, rfl⟩ := List.mem_map.mp hx
    exact depOk_pD e
  unfold sortD
  rw [if_pos]
  · rw [List.mergeSort_of_pairwise (pwB_pw h)]
  · simp only [Bool.and_eq_true, Bool.or_eq_true]
    refine ⟨⟨h1, .inl ?_⟩, h3⟩
    rw [List.all_eq_true]; intro x hx
    obtain ⟨e, _, rfl⟩ := List.mem_map.mp hx
    rfl
def lpBody : Ss := (.cons (.if_ (.cmp .Gt (.call 103 (.cons (.var 0) (.cons (.cst (.int 4)) .nil))) (.cst (.int 0))) (.cons (.app 6 (.tup (.cons (.idx (.var 4) (.var 8)) (.cons (.idx (.var 5) (.bin .Mod (.blt .int (.cons (.bin .Add (.var 8) (.var 7)) .nil)) (.blt .len (.cons (.var 5) .nil)))) .nil)))) .nil) .nil) .nil)
def lpEnv (o1 o2 : PyData) (fa fb : List Str) (rows : List (Str × Str)) (sh : Nat) (a : Option RV) : MEnv := [some (.ref 0), some (.dat o1), some (.dat o2), some (.dat .none), some (.olst (fa.map .str)), some (.olst (fb.map .str)), some (.olst (rows.map pD)), some (.dat (.int sh)), a]
theorem lpBody_ev (h : P 103 = some Fn.x_law_next) (k : Nat) (o1 o2 : PyData) (fa fb : List Str) (rows : List (Str × Str)) (sh i : Nat) (hi : i < min fa.length fb.length) (hr : rows.length ≤ 1000) (is : List Int) :
    ∃ rows' js, evSs (CF P sub (k + 1)) lpBody (lpEnv o1 o2 fa fb rows sh (some (.dat (.int i)))) [.lst (iL is)] = .next (lpEnv o1 o2 fa fb rows' sh (some (.dat (.int i)))) [.lst (iL js)] ∧ (rows' = rows ∨ rows' = rows ++ [(fa.getD i Str.empty, fb.getD ((i + sh) % fb.length) Str.empty)]) := by
  obtain ⟨j, js, e, h1, h2⟩ := c_nx (sub := sub) h k 4 is (by decide)
  have g1 : cmpD .Gt (.int j) (.int 0) = some (decide (0 < j)) := cmp_gt_int _ _
  cases e1 : decide (0 < j) with
  | false =>
    refine ⟨rows, js, ?_, .inl rfl⟩
    rw [e1] at g1
    simp [lpBody, lpEnv, RV.passes, e, g1]
  | true =>
    refine ⟨rows ++ [(fa.getD i Str.empty, fb.getD ((i + sh) % fb.length) Str.empty)], js, ?_, .inr rfl⟩
    rw [e1] at g1
    have ha : i < fa.length := by omega
    have hb : 0 < fb.length := by omega
    have hm : (i + sh) % fb.length < fb.length := Nat.mod_lt _ hb
    have i1 : idxD (.list (fa.map .str)) (.int (i : Int)) = some (.str (fa.getD i Str.empty)) := by
      show atD (fa.map .str) (i : Int) = _
      rw [atD_nat, List.getElem?_map, List.getD_eq_getElem?_getD, List.getElem?_eq_getElem ha]; rfl
    have ad : binD .Add (.int (i : Int)) (.int (sh : Int)) = some (.int ((i : Int) + sh)) := rfl
    have hl : lenD (.list (fb.map .str)) = some (.int (fb.length : Int)) := by simp [lenD]
    have md : binD .Mod (.int ((i : Int) + sh)) (.int (fb.length : Int)) = some (.int (((i + sh) % fb.length : Nat) : Int)) := by
      show (if decide (0 < (fb.length : Int)) then some (PyData.int (((i : Int) + sh) % (fb.length : Int))) else none) = _
      rw [decide_eq_true (by omega : 0 < (fb.length : Int))]
      show some (PyData.int (((i : Int) + sh) % (fb.length : Int))) = _
      congr 2
    have i2 : idxD (.list (fb.map .str)) (.int (((i + sh) % fb.length : Nat) : Int)) = some (.str (fb.getD ((i + sh) % fb.length) Str.empty)) := by
      show atD (fb.map .str) (((i + sh) % fb.length : Nat) : Int) = _
      rw [atD_nat, List.getElem?_map, List.getD_eq_getElem?_getD, List.getElem?_eq_getElem hm]; rfl
    have hap : appD (.tuple [.str (fa.getD i Str.empty), .str (fb.getD ((i + sh) % fb.length) Str.empty)]) (.list (rows.map pD)) = some (.list ((rows ++ [(fa.getD i Str.empty, fb.getD ((i + sh) % fb.length) Str.empty)]).map pD)) := by
      have hbg : big ((rows.map pD).length + 1) = true := decide_eq_true (by rw [List.length_map]; omega)
      show (if big ((rows.map pD).length + 1) then some (PyData.list (rows.map pD ++ [pD (fa.getD i Str.empty, fb.getD ((i + sh) % fb.length) Str.empty)])) else none) = _
      rw [hbg, List.map_append]; rfl
    unfold lpEnv
    generalize (rows ++ [(fa.getD i Str.empty, fb.getD ((i + sh) % fb.length) Str.empty)]).map pD = nl at hap ⊢
    generalize (((i + sh) % fb.length : Nat) : Int) = mi at md i2
    generalize fa.getD i Str.empty = u at i1 hap
    generalize fb.getD ((i + sh) % fb.length) Str.empty = w at i2 hap
    generalize fa.map PyData.str = la at i1 ⊢
    generalize fb.map PyData.str = lb at i2 hl ⊢
    generalize rows.map pD = lr at hap ⊢
    simp [lpBody, RV.passes, e, g1, i1, ad, bltD, un, intD, hl, md, i2, lstAt, upR, hap, big]
theorem c_pairs_of (hP : P 116 = some Fn.x_law_pairs_of) (h : P 103 = some Fn.x_law_next) (k : Nat) (p q : Str × List Str) (hp : p.2 ∈ gWorths) (hq : q.2 ∈ gWorths) (is : List Int) :
    ∃ rows js, (CF P sub (k + 2)).call 116 [.ref 0, .dat (leafD p), .dat (leafD q), .dat .none] [.lst (iL is)] = .ok (.dat (.tuple (rows.map pD))) [.lst (iL js)] ∧ rowsCheck p.2 q.2 rows = true := by
  obtain ⟨s, js0, e0, hs0, hs3⟩ := c_nx (sub := sub) h k 3 is (by decide)
  obtain ⟨sh, rfl⟩ := Int.eq_ofNat_of_zero_le hs0
  have hle : ∀ ws ∈ gWorths, ws.length ≤ 3 := by decide
  have hl1 := hle _ hp
  have hl2 := hle _ hq
  obtain ⟨env', mh', e, rows, a, js, rfl, rfl, hsub, _⟩ := forB_idx (C := CF P sub (k + 1)) (t := .nm 8) (body := lpBody) (rngD 0 (min p.2.length q.2.length)) (fun i env m => ∃ rows a js, env = lpEnv (leafD p) (leafD q) p.2 q.2 rows sh a ∧ m = [.lst (iL js)] ∧ rows.Sublist ((fullRows p.2 q.2 sh).take i) ∧ rows.length ≤ i) (lpEnv (leafD p) (leafD q) p.2 q.2 [] sh none) [.lst (iL js0)] ⟨[], none, js0, rfl, rfl, .slnil, Nat.le_refl _⟩ (by
    rintro i x hx env m ⟨rows, a, js, rfl, rfl, hf, hl⟩
    obtain ⟨hi, rfl⟩ := rngD_at _ i x hx
    obtain ⟨rows', js', e, hor⟩ := lpBody_ev (sub := sub) h k (leafD p) (leafD q) p.2 q.2 rows sh i hi (by omega) js
    have hfi : (fullRows p.2 q.2 sh)[i]? = some (p.2.getD i Str.empty, q.2.getD ((i + sh) % q.2.length) Str.empty) := by
      unfold fullRows
      rw [List.getElem?_map, List.getElem?_range hi]; rfl
    have ht : (fullRows p.2 q.2 sh).take (i + 1) = (fullRows p.2 q.2 sh).take i ++ [(p.2.getD i Str.empty, q.2.getD ((i + sh) % q.2.length) Str.empty)] := by rw [List.take_succ, hfi]; rfl
    refine ⟨lpEnv (leafD p) (leafD q) p.2 q.2 rows sh (some (.dat (.int i))), rfl, _, _, e, rows', _, js', rfl, rfl, ?_, ?_⟩
    · rw [ht]
      rcases hor with rfl | rfl
      · exact hf.trans (List.sublist_append_left _ _)
      · exact List.Sublist.append hf (List.Sublist.refl _)
    · rcases hor with rfl | rfl
      · omega
      · rw [List.length_append]; simp; omega)
  have hfl : (fullRows p.2 q.2 sh).length = min p.2.length q.2.length := by simp [fullRows]
  rw [rngD_len, ← hfl, List.take_length] at hsub
  have hsh : sh ∈ [0, 1, 2] := by
    have : sh < 3 := by omega
    have : sh = 0 ∨ sh = 1 ∨ sh = 2 := by omega
    rcases this with rfl | rfl | rfl <;> decide
  have hgood := rows_good _ hp _ hq sh hsh rows (subs_mem hsub)
  refine ⟨rows, js, ?_, hgood⟩
  have hpw : pwB (rows.map pD) = true := by
    have h' : (isRowsOf (.tuple (rows.map pD)) p.2 q.2 && (okD (.tuple (rows.map pD)) && pwB (rows.map pD))) = true := hgood
    simp only [Bool.and_eq_true] at h'
    exact h'.2.2
  have hsort : sortedD (.list (rows.map pD)) = some (.list (rows.map pD)) := by
    show (sortD (rows.map pD)).map PyData.list = _
    rw [sort_pD rows hpw]; rfl
  rw [cf_succ hP]
  have i1 : idxD (leafD p) (.int 1) = some (tS p.2) := rfl
  have i2 : idxD (leafD q) (.int 1) = some (tS q.2) := rfl
  have l1 : lstD (tS p.2) = some (.list (p.2.map .str)) := rfl
  have l2 : lstD (tS q.2) = some (.list (q.2.map .str)) := rfl
  have n1 : lenD (.list (p.2.map .str)) = some (.int (p.2.length : Int)) := by simp [lenD]
  have n2 : lenD (.list (q.2.map .str)) = some (.int (q.2.length : Int)) := by simp [lenD]
  have mn : min2D [.int (p.2.length : Int), .int (q.2.length : Int)] = some (.int ((min p.2.length q.2.length : Nat) : Int)) := by
    show some (PyData.int (if (q.2.length : Int) < (p.2.length : Int) then (q.2.length : Int) else (p.2.length : Int))) = _
    congr 2
    split <;> omega
  have hN : cmpD .IsNot .none .none = some false := rfl
  have hmin : (min p.2.length q.2.length : Nat) ≤ 3 := by omega
  generalize hmm : min p.2.length q.2.length = mm at e mn hmin
  have hi : ∀ env : MEnv, env[4]? = some (some (.olst (p.2.map .str))) → env[5]? = some (some (.olst (q.2.map .str))) → ∀ mh, evItF (CF P sub (k + 1)) (.rng1 (.blt .min2 (.cons (.blt .len (.cons (.var 4) .nil)) (.cons (.blt .len (.cons (.var 5) .nil)) .nil)))) env mh = .ok (rngD 0 mm) mh := fun env h4 h5 mh => by
    have b1 : (-16777216 : Int) ≤ mm := by omega
    have b2 : (mm : Int) ≤ 16777216 := by omega
    simp [evItF, evIt, h4, h5, bltD, un, n1, n2, mn, b1, b2]
  have hi := fun mh => hi (lpEnv (leafD p) (leafD q) p.2 q.2 [] sh none) rfl rfl mh
  unfold lpBody at e
  unfold lpEnv at e hi
  simp only [List.map_nil] at e hi
  generalize rngD 0 mm = rr at hi e
  generalize rows.map pD = rl at e hsort ⊢
  generalize p.2.map PyData.str = la at e hi l1 n1
  generalize q.2.map PyData.str = lb at e hi l2 n2
  generalize tS p.2 = ta at i1 l1
  generalize tS q.2 = tb at i2 l2
  generalize leafD p = lf at i1 e hi ⊢
  generalize leafD q = lg at i2 e hi ⊢
  simp [runF, Fn.x_law_pairs_of, RV.passes, i1, i2, l1, l2, bltD, un, freshV, isFresh, setN, big, hN, e0, bindT, hi, e, hsort, tupD]
end Mn
end
section
set_option linter.all false
set_option autoImplicit false
set_option maxRecDepth 100000
namespace Mn
open PySem
variable {P : Nat → Option FDef} {sub : Nat → Nat → Option Bool}
theorem depOk_leaf (p : Str × List Str) : depOk (leafD p) = true := by
  have h := depthA_strs p.2
  simp [depOk, leafD, tS, PyData.plain, PyData.depth, PyData.plainAll, PyData.depthAll, plainA_strs]
  omega
theorem plain_leaf (p : Str × List Str) : (leafD p).plain = true := by
  have h := depOk_leaf p
  unfold depOk at h
  rw [Bool.and_eq_true] at h
  exact h.1
theorem only_good : ∀ wa ∈ gWorths, ∀ ws ∈ subs wa, (onlyOk (tS ws) wa && okD (tS ws)) = true := by decide +kernel
def lr0 : S := (.asg (.nm 3) (.idx (.var 1) (.call 103 (.cons (.var 0) (.cons (.blt .len (.cons (.var 1) .nil)) .nil)))))
def lr1 : S := (.asg (.nm 4) (.idx (.var 1) (.call 103 (.cons (.var 0) (.cons (.blt .len (.cons (.var 1) .nil)) .nil)))))
def lr2 : S := (.asg (.nm 5) (.call 103 (.cons (.var 0) (.cons (.cst (.int 7)) .nil))))
def lr3 : S := (.if_ (.or_ (.cmp .Eq (.var 5) (.cst (.int 0))) (.cmp .Eq (.var 3) (.var 4))) (.cons (.asg (.nm 6) (.comp (.var 7) (.nm 7) (.of (.idx (.var 3) (.cst (.int 1)))) (.or_ (.cmp .Gt (.call 103 (.cons (.var 0) (.cons (.cst (.int 3)) .nil))) (.cst (.int 0))) (.and_ (.cmp .IsNot (.var 2) (.cst .none)) (.cmp .Eq (.idx (.var 2) (.idx (.var 3) (.cst (.int 0)))) (.var 7)))) [7])) (.cons (.ret (.tup (.cons (.cst (.str "only")) (.cons (.idx (.var 3) (.cst (.int 0))) (.cons (.blt .tup (.cons (.var 6) .nil)) .nil))))) .nil)) .nil)
def lr4 : S := (.if_ (.cmp .Lt (.var 5) (.cst (.int 4))) (.cons (.ret (.tup (.cons (.cst (.str "pairs")) (.cons (.idx (.var 3) (.cst (.int 0))) (.cons (.idx (.var 4) (.cst (.int 0))) (.cons (.call 116 (.cons (.var 0) (.cons (.var 3) (.cons (.var 4) (.cons (.var 2) .nil))))) .nil)))))) .nil) .nil)
def lr5 : S := (.asg (.nm 8) (.idx (.idx (.var 3) (.cst (.int 1))) (.call 103 (.cons (.var 0) (.cons (.blt .len (.cons (.idx (.var 3) (.cst (.int 1))) .nil)) .nil)))))
def lr6 : S := (.asg (.nm 9) (.idx (.idx (.var 4) (.cst (.int 1))) (.call 103 (.cons (.var 0) (.cons (.blt .len (.cons (.idx (.var 4) (.cst (.int 1))) .nil)) .nil)))))
def lr7 : S := (.if_ (.and_ (.cmp .IsNot (.var 2) (.cst .none)) (.and_ (.cmp .NotEq (.idx (.var 2) (.idx (.var 3) (.cst (.int 0)))) (.var 8)) (.cmp .NotEq (.idx (.var 2) (.idx (.var 4) (.cst (.int 0)))) (.var 9)))) (.cons (.asg (.nm 8) (.idx (.var 2) (.idx (.var 3) (.cst (.int 0))))) .nil) .nil)
def lr8 : S := (.ret (.tup (.cons (.cst (.str "either")) (.cons (.idx (.var 3) (.cst (.int 0))) (.cons (.var 8) (.cons (.idx (.var 4) (.cst (.int 0))) (.cons (.var 9) .nil)))))))
def lrE (g : Gr) (x3 x4 x5 x6 x7 x8 x9 : Option RV) : MEnv := [some (.ref 0), some (.dat (gD g)), some (.dat .none), x3, x4, x5, x6, x7, x8, x9]
theorem g_pick {g : Gr} {j : Int} (h : 0 ≤ j ∧ j < g.length) : ∃ p ∈ g, idxD (gD g) (.int j) = some (leafD p) := by
  obtain ⟨n, rfl⟩ := Int.eq_ofNat_of_zero_le h.1
  have hn : n < g.length := by omega
  refine ⟨g[n], List.getElem_mem hn, ?_⟩
  show atD (g.map leafD) (n : Int) = _
  rw [atD_nat, List.getElem?_map, List.getElem?_eq_getElem hn]; rfl
section
variable {C : CallF} {g : Gr} {x3 x4 x5 x6 x7 x8 x9 : Option RV} {mh mh' : MH} {j : Int} {p q : Str × List Str}
theorem r0_ok (hl : lenD (gD g) = some (.int g.length)) (c : C.call 103 [.ref 0, .dat (.int g.length)] mh = .ok (.dat (.int j)) mh') (i : idxD (gD g) (.int j) = some (leafD p)) : evS C lr0 (lrE g none none none none none none none) mh = .next (lrE g (some (.dat (leafD p))) none none none none none none) mh' := by
  unfold lrE
  generalize gD g = gg at hl i ⊢
  generalize (g.length : Int) = n at hl c
  simp [lr0, bltD, un, hl, RV.passes, c, i, bindT]
theorem r1_ok (hl : lenD (gD g) = some (.int g.length)) (c : C.call 103 [.ref 0, .dat (.int g.length)] mh = .ok (.dat (.int j)) mh') (i : idxD (gD g) (.int j) = some (leafD q)) : evS C lr1 (lrE g x3 none none none none none none) mh = .next (lrE g x3 (some (.dat (leafD q))) none none none none none) mh' := by
  unfold lrE
  generalize gD g = gg at hl i ⊢
  generalize (g.length : Int) = n at hl c
  simp [lr1, bltD, un, hl, RV.passes, c, i, bindT]
theorem r2_ok (c : C.call 103 [.ref 0, .dat (.int 7)] mh = .ok (.dat (.int j)) mh') : evS C lr2 (lrE g x3 x4 none none none none none) mh = .next (lrE g x3 x4 (some (.dat (.int j))) none none none none) mh' := by
  unfold lrE
  generalize gD g = gg
  simp [lr2, RV.passes, c, bindT]
end
theorem c_lrule (hP : P 131 = some Fn.x_law_rule) (hp : P 116 = some Fn.x_law_pairs_of) (h : P 103 = some Fn.x_law_next) (k : Nat) (g : Gr) (hg : goodG g) (h1 : 1 ≤ g.length) (hl5 : g.length ≤ 5) (is : List Int) :
    ∃ r js, (CF P sub (k + 3)).call 131 [.ref 0, .dat (gD g), .dat .none] [.lst (iL is)] = .ok (.dat (ruleD r)) [.lst (iL js)] ∧ isRuleOf g (ruleD r) = true ∧ okD (ruleD r) = true := by
  have hl : lenD (gD g) = some (.int g.length) := by simp [lenD, gD]
  obtain ⟨j1, is1, e1, a1, b1⟩ := c_nx (sub := sub) h (k + 1) g.length is (by omega)
  obtain ⟨j2, is2, e2, a2, b2⟩ := c_nx (sub := sub) h (k + 1) g.length is1 (by omega)
  obtain ⟨j3, is3, e3, a3, b3⟩ := c_nx (sub := sub) h (k + 1) 7 is2 (by omega)
  obtain ⟨p, hpg, i1⟩ := g_pick ⟨a1, b1⟩
  obtain ⟨q, hqg, i2⟩ := g_pick ⟨a2, b2⟩
  have hgr := goodG_ground hg h1 hl5
  have hok := goodG_ok hg hl5
  have hnd := ground_nodup hgr
  have lp := look_mem hnd hpg
  have lq := look_mem hnd hqg
  have wp := hg.2 p hpg
  have wq := hg.2 q hqg
  have bp := leaf_okD hok hpg
  have bq := leaf_okD hok hqg
  suffices hs : ∃ r js, evSs (CF P sub (k + 2)) (.cons lr3 (.cons lr4 (.cons lr5 (.cons lr6 (.cons lr7 (.cons lr8 .nil)))))) (lrE g (some (.dat (leafD p))) (some (.dat (leafD q))) (some (.dat (.int j3))) none none none none) [.lst (iL is3)] = .ret (.dat (ruleD r)) [.lst (iL js)] ∧ isRuleOf g (ruleD r) = true ∧ okD (ruleD r) = true by
    obtain ⟨r, js, e, h2, h3⟩ := hs
    refine ⟨r, js, ?_, h2, h3⟩
    rw [cf_succ hP]
    show bodyEnd (evSs (CF P sub (k + 2)) (.cons lr0 (.cons lr1 (.cons lr2 (.cons lr3 (.cons lr4 (.cons lr5 (.cons lr6 (.cons lr7 (.cons lr8 .nil))))))))) (lrE g none none none none none none none) [.lst (iL is)]) = _
    rw [stepN (r0_ok hl e1 i1) (stepN (r1_ok hl e2 i2) (stepN (r2_ok e3) e))]
    rfl
  have pi0 : ∀ p, idxD (leafD p) (.int 0) = some (.str p.1) := fun _ => rfl
  have pi1 : ∀ p, idxD (leafD p) (.int 1) = some (tS p.2) := fun _ => rfl
  have ce : cmpD .Eq (.int j3) (.int 0) = some (decide (j3 = 0)) := cmp_eq_int _ _
  have cq : cmpD .Eq (leafD p) (leafD q) = some (PyData.eqv (leafD p) (leafD q)) := by
    show eqD _ _ = _
    unfold eqD
    rw [depOk_leaf, depOk_leaf]; rfl
  have hN : cmpD .IsNot .none .none = some false := rfl
  have b4 : ∀ n, n ≤ 20 → big n = true := fun n hn => decide_eq_true (by omega)
  have bs : big ("only" : Str).length = true ∧ big ("pairs" : Str).length = true ∧ big ("either" : Str).length = true := by decide
  cases eo : (decide (j3 = 0) || PyData.eqv (leafD p) (leafD q)) with
  | true =>
    -- the rule of one leaf's worths
    have hcm : ∃ ws js, (evP (CF P sub (k + 2)) (.comp (.var 7) (.nm 7) (.of (.idx (.var 3) (.cst (.int 1)))) (.or_ (.cmp .Gt (.call 103 (.cons (.var 0) (.cons (.cst (.int 3)) .nil))) (.cst (.int 0))) (.and_ (.cmp .IsNot (.var 2) (.cst .none)) (.cmp .Eq (.idx (.var 2) (.idx (.var 3) (.cst (.int 0)))) (.var 7)))) [7])).1 (lrE g (some (.dat (leafD p))) (some (.dat (leafD q))) (some (.dat (.int j3))) none none none none) [.lst (iL is3)] = .ok (.dat (.list (ws.map .str))) [.lst (iL js)] ∧ ws ∈ subs p.2 := by
      obtain ⟨ds, js, ec, hsub⟩ := compL_sub (turn := cmpTurn (CF P sub (k + 2)) (.var 7) (.nm 7) (.or_ (.cmp .Gt (.call 103 (.cons (.var 0) (.cons (.cst (.int 3)) .nil))) (.cst (.int 0))) (.and_ (.cmp .IsNot (.var 2) (.cst .none)) (.cmp .Eq (.idx (.var 2) (.idx (.var 3) (.cst (.int 0)))) (.var 7)))) [7] (lrE g (some (.dat (leafD p))) (some (.dat (leafD q))) (some (.dat (.int j3))) none none none none)) (f := id) (p.2.map .str) (by
        intro x hx is
        obtain ⟨w, hw, rfl⟩ := List.mem_map.mp hx
        obtain ⟨j, js, e, _, _⟩ := c_nx (sub := sub) h (k + 1) 3 is (by omega)
        have g1 : cmpD .Gt (.int j) (.int 0) = some (decide (0 < j)) := cmp_gt_int _ _
        unfold lrE
        generalize gD g = gg
        generalize leafD p = lf
        generalize leafD q = lg
        cases e1 : decide (0 < j) with
        | false =>
          rw [e1] at g1
          refine ⟨none, js, ?_, .inl rfl⟩
          simp [cmpTurn, bindT, wipeM, RV.passes, e, g1, hN]
        | true =>
          rw [e1] at g1
          refine ⟨some (.str w), js, ?_, .inr rfl⟩
          simp [cmpTurn, bindT, wipeM, RV.passes, e, g1]) is3 []
      rw [List.map_id] at hsub
      obtain ⟨ws, hws, rfl⟩ := List.sublist_map_iff.mp hsub
      refine ⟨ws, js, ?_, subs_mem hws⟩
      have hit : itemsD (tS p.2) = some (p.2.map .str) := rfl
      have hbw : ∀ ws ∈ gWorths, big ws.length = true := by decide
      have p1 := pi1 p
      rw [ev_comp_gen (mh1 := [.lst (iL is3)]) (xs := p.2.map .str) (ds := ws.map .str) (mh2 := [.lst (iL js)]) ?_ (by rw [List.length_map]; exact hbw _ wp) (by rw [ec]; rfl)]
      unfold lrE
      generalize gD g = gg
      generalize leafD p = lf at p1 ⊢
      generalize leafD q = lg
      simp [evIt, p1, hit]
    obtain ⟨ws, js, ec, hws⟩ := hcm
    have hgood := only_good _ wp _ hws
    rw [Bool.and_eq_true] at hgood
    refine ⟨.only p.1 ws, js, ?_, ?_, ?_⟩
    · refine stepR ?_
      have p0 := pi0 p
      have hor : (decide (j3 = 0) = true) ∨ (decide (j3 = 0) = false ∧ PyData.eqv (leafD p) (leafD q) = true) := by
        cases h1 : decide (j3 = 0) with
        | true => exact .inl rfl
        | false => rw [h1] at eo; exact .inr ⟨rfl, by simpa using eo⟩
      show evS _ lr3 _ _ = SO.ret (.dat (.tuple [.str "only", .str p.1, .tuple (ws.map .str)])) _
      unfold lrE at ec ⊢
      generalize PyData.eqv (leafD p) (leafD q) = b1 at cq hor
      generalize decide (j3 = 0) = b0 at ce hor
      generalize gD g = gg at ec ⊢
      generalize leafD p = lf at ec p0 cq ⊢
      generalize leafD q = lg at ec cq ⊢
      generalize ws.map PyData.str = wl at ec ⊢
      rcases hor with rfl | ⟨rfl, rfl⟩ <;> simp [lr3, ce, cq, ec, bindT, p0, bltD, un, tupD, big]
    · show ruleO g "only" p.1 (tS ws) = true
      unfold ruleO
      rw [lp]
      show (decide (("only" : Str) = "only") && onlyOk (tS ws) p.2) = true
      rw [hgood.1]; rfl
    · have := hgood.2
      simp [ruleD, okD, okD.okA, b4, bs, bp.1, this]
  | false =>
    rw [Bool.or_eq_false_iff] at eo
    rw [eo.1] at ce
    rw [eo.2] at cq
    have hpq : q.1 ≠ p.1 := fun e => by
      have : q = p := by
        have h2 := look_mem hnd hqg
        rw [e, lp] at h2
        obtain ⟨a, b⟩ := p
        obtain ⟨c, d⟩ := q
        have e : c = a := e
        have h2 : b = d := Option.some.inj h2
        rw [e, h2]
      rw [this] at eo
      have := PySem.SeqAt.eqv_refl_plain (leafD p) (plain_leaf p)
      rw [this] at eo
      cases eo.2
    have s3 : evS (CF P sub (k + 2)) lr3 (lrE g (some (.dat (leafD p))) (some (.dat (leafD q))) (some (.dat (.int j3))) none none none none) [.lst (iL is3)] = .next (lrE g (some (.dat (leafD p))) (some (.dat (leafD q))) (some (.dat (.int j3))) none none none none) [.lst (iL is3)] := by
      unfold lrE
      generalize gD g = gg
      generalize leafD p = lf at cq ⊢
      generalize leafD q = lg at cq ⊢
      simp [lr3, ce, cq]
    have cl : cmpD .Lt (.int j3) (.int 4) = some (decide (j3 < 4)) := cmp_lt_int _ _
    cases e4 : decide (j3 < 4) with
    | true =>
      rw [e4] at cl
      obtain ⟨rows, js, er, hr⟩ := c_pairs_of (sub := sub) hp h k p q wp wq is3
      have hr' : (isRowsOf (.tuple (rows.map pD)) p.2 q.2 && (okD (.tuple (rows.map pD)) && pwB (rows.map pD))) = true := hr
      simp only [Bool.and_eq_true] at hr'
      refine ⟨.pairs p.1 q.1 rows, js, ?_, ?_, ?_⟩
      · refine stepN s3 (stepR ?_)
        have p0 := pi0 p
        have q0 := pi0 q
        show evS _ lr4 _ _ = SO.ret (.dat (.tuple [.str "pairs", .str p.1, .str q.1, .tuple (rows.map pD)])) _
        unfold lrE
        generalize gD g = gg
        generalize leafD p = lf at er p0 ⊢
        generalize leafD q = lg at er q0 ⊢
        generalize PyData.tuple (rows.map pD) = rd at er ⊢
        simp [lr4, cl, p0, q0, RV.passes, er, big]
      · show ruleP g "pairs" p.1 q.1 (.tuple (rows.map pD)) = true
        unfold ruleP
        rw [lp, lq]
        show (decide (("pairs" : Str) = "pairs") && (!decide (q.1 = p.1) && isRowsOf (.tuple (rows.map pD)) p.2 q.2)) = true
        rw [hr'.1, decide_eq_false hpq]; rfl
      · have := hr'.2.1
        simp [ruleD, okD, okD.okA, b4, bs, bp.1, bq.1] at this ⊢
        exact this
    | false =>
      rw [e4] at cl
      have hne := goodG_ne hg
      obtain ⟨m1, is4, f1, c1, d1⟩ := c_nx (sub := sub) h (k + 1) p.2.length is3 (by have := hne p hpg; omega)
      obtain ⟨u, hu, iu⟩ := tS_at p.2 m1 ⟨c1, d1⟩
      obtain ⟨m2, is5, f2, c2, d2⟩ := c_nx (sub := sub) h (k + 1) q.2.length is4 (by have := hne q hqg; omega)
      obtain ⟨w, hw, iw⟩ := tS_at q.2 m2 ⟨c2, d2⟩
      refine ⟨.either p.1 u q.1 w, is5, ?_, ?_, ?_⟩
      · have p0 := pi0 p
        have q0 := pi0 q
        have p1 := pi1 p
        have q1 := pi1 q
        have n1 := lenD_tS p.2
        have n2 := lenD_tS q.2
        refine stepN s3 ?_
        show evSs _ _ _ _ = SO.ret (.dat (.tuple [.str "either", .str p.1, .str u, .str q.1, .str w])) _
        unfold lrE
        generalize gD g = gg
        generalize leafD p = lf at p0 p1 ⊢
        generalize leafD q = lg at q0 q1 ⊢
        generalize tS p.2 = ta at p1 n1 iu
        generalize tS q.2 = tb at q1 n2 iw
        generalize (p.2.length : Int) = l1 at n1 f1
        generalize (q.2.length : Int) = l2 at n2 f2
        simp [lr4, lr5, lr6, lr7, lr8, cl, p0, q0, p1, q1, RV.passes, bltD, un, n1, n2, f1, f2, iu, iw, bindT, hN, big]
      · show ruleE g "either" p.1 (.str u) q.1 (.str w) = true
        unfold ruleE
        rw [lp, lq]
        show (decide (("either" : Str) = "either") && (!decide (q.1 = p.1) && (decide (u ∈ p.2) && decide (w ∈ q.2)))) = true
        rw [decide_eq_false hpq, decide_eq_true hu, decide_eq_true hw]; rfl
      · have b1 := bp.2 u hu
        have b2 := bq.2 w hw
        simp [ruleD, okD, okD.okA, b4, bs, bp.1, bq.1, b1, b2]
end Mn
end
section
set_option linter.all false
set_option autoImplicit false
set_option maxRecDepth 100000
namespace Mn
open PySem
variable {P : Nat → Option FDef} {sub : Nat → Nat → Option Bool}
def ruleGood (g : Gr) (r : Rule) : Prop := isRuleOf g (ruleD r) = true ∧ okD (ruleD r) = true
theorem rules_of {g : Gr} : ∀ {ds : List PyData}, (∀ d ∈ ds, ∃ r, d = ruleD r ∧ ruleGood g r) → ∃ rs : List Rule, ds = rs.map ruleD ∧ ∀ r ∈ rs, ruleGood g r
  | [], _ => ⟨[], rfl, fun r hr => by cases hr⟩
  | d :: ds, h => by
    obtain ⟨r, rfl, hr⟩ := h d List.mem_cons_self
    obtain ⟨rs, rfl, hrs⟩ := rules_of fun d hd => h d (List.mem_cons_of_mem _ hd)
    refine ⟨r :: rs, rfl, fun x hx => ?_⟩
    rcases List.mem_cons.mp hx with rfl | hx
    · exact hr
    · exact hrs x hx
theorem c_lbook (hb : P 14 = some Fn.x_law_book) (hP : P 131 = some Fn.x_law_rule) (hp : P 116 = some Fn.x_law_pairs_of) (h : P 103 = some Fn.x_law_next) (k most : Nat) (hm : most ≤ 100) (g : Gr) (hg : goodG g) (h1 : 1 ≤ g.length) (hl5 : g.length ≤ 5) (is : List Int) :
    ∃ (rs : List Rule) (js : List Int), (CF P sub (k + 4)).call 14 [.ref 0, .dat (gD g), .dat (.int (most : Int)), .dat (.bool true)] [.lst (iL is)] = .ok (.dat (bookD g (rs.map ruleD))) [.lst (iL js)] ∧ rs.length ≤ most ∧ ∀ r ∈ rs, ruleGood g r := by
  obtain ⟨j, is1, e1, a1, b1⟩ := c_nx (sub := sub) h (k + 2) ((most : Int) + 1) is (by omega)
  obtain ⟨n, rfl⟩ := Int.eq_ofNat_of_zero_le a1
  have hn : n ≤ most := by omega
  obtain ⟨ds, js, ec, hlen, hall⟩ := compL_all (turn := cmpTurn (CF P sub (k + 3)) (.call 131 (.cons (.var 0) (.cons (.var 1) (.cons (.var 4) .nil)))) (.nm 6) (.cst (.bool true)) [6] [some (.ref 0), some (.dat (gD g)), some (.dat (.int (most : Int))), some (.dat (.bool true)), some (.dat .none), none, none]) (Q := fun d => ∃ r, d = ruleD r ∧ ruleGood g r) (rngD 0 n) (by
    intro x hx is
    obtain ⟨r, js, e, h2, h3⟩ := c_lrule (sub := sub) hP hp h k g hg h1 hl5 is
    refine ⟨ruleD r, js, ?_, r, rfl, h2, h3⟩
    generalize gD g = gg at e ⊢
    generalize ruleD r = rd at e ⊢
    simp [cmpTurn, bindT, wipeM, RV.passes, e]) is1 []
  obtain ⟨rs, rfl, hgood⟩ := rules_of hall
  rw [List.length_map, rngD_len] at hlen
  refine ⟨rs, js, ?_, by omega, hgood⟩
  have hcm : (evP (CF P sub (k + 3)) (.comp (.call 131 (.cons (.var 0) (.cons (.var 1) (.cons (.var 4) .nil)))) (.nm 6) (.rng1 (.call 103 (.cons (.var 0) (.cons (.bin .Add (.var 2) (.cst (.int 1))) .nil)))) (.cst (.bool true)) [6])).1 [some (.ref 0), some (.dat (gD g)), some (.dat (.int (most : Int))), some (.dat (.bool true)), some (.dat .none), none, none] [.lst (iL is)] = .ok (.dat (.list (rs.map ruleD))) [.lst (iL js)] := by
    refine ev_comp_gen (mh1 := [.lst (iL is1)]) (xs := rngD 0 n) ?_ (by rw [rngD_len]; exact decide_eq_true (by omega)) (by rw [ec]; rfl)
    have ad : binD .Add (.int (most : Int)) (.int 1) = some (.int ((most : Int) + 1)) := rfl
    have b1 : (-16777216 : Int) ≤ n := by omega
    have b2 : (n : Int) ≤ 16777216 := by omega
    generalize gD g = gg
    generalize (most : Int) + 1 = m1 at e1 ad
    simp [evIt, ad, RV.passes, e1, b1, b2]
  rw [cf_succ hb]
  unfold bookD
  generalize gD g = gg at hcm ⊢
  generalize rs.map ruleD = rl at hcm ⊢
  simp [runF, Fn.x_law_book, RV.passes, bindT, hcm, bltD, un, tupD, big]
/-! ### the kind of an error -/
@[simp] theorem unX_ret (k : Nat) (r : RV) (m : MH) : SO.unX k (.ret r m) = if r.noX then .ret r m else .stuck := rfl
def kindsL (b0 b1 b2 : Bool) : List PyData := (if b0 then [.str "ground"] else []) ++ ((if b1 then [.str "book"] else []) ++ (if b2 then [.str "state"] else []))
theorem itC_kinds (C : CallF) (b0 b1 b2 : Bool) (x0 x1 x2 x3 : Option RV) (mh : MH) :
    (evP C (.comp (.idx (.lst (.cons (.cst (.str "ground")) (.cons (.cst (.str "book")) (.cons (.cst (.str "state")) .nil)))) (.var 5)) (.nm 5) (.rng1 (.cst (.int 3))) (.idx (.var 4) (.var 5)) [5])).1 [x0, x1, x2, x3, some (.dat (.list [.bool b0, .bool b1, .bool b2])), none] mh = .ok (.dat (.list (kindsL b0 b1 b2))) mh := by
  have e := ev_comp (C := C) (elt := .idx (.lst (.cons (.cst (.str "ground")) (.cons (.cst (.str "book")) (.cons (.cst (.str "state")) .nil)))) (.var 5)) (tg := .nm 5) (it := .rng1 (.cst (.int 3))) (c := .idx (.var 4) (.var 5)) (own := [5]) (env := [x0, x1, x2, x3, some (.dat (.list [.bool b0, .bool b1, .bool b2])), none]) (mh := mh) (mh1 := mh) (xs := [.int 0, .int 1, .int 2])
    (f := fun d => match d with
      | .int 0 => if b0 then some (.str "ground") else none
      | .int 1 => if b1 then some (.str "book") else none
      | _ => if b2 then some (.str "state") else none) rfl rfl fun x hx => by
    have k0 : ∀ a b c : PyData, idxD (.list [a, b, c]) (.int 0) = some a := fun _ _ _ => rfl
    have k1 : ∀ a b c : PyData, idxD (.list [a, b, c]) (.int 1) = some b := fun _ _ _ => rfl
    have k2 : ∀ a b c : PyData, idxD (.list [a, b, c]) (.int 2) = some c := fun _ _ _ => rfl
    simp only [List.mem_cons, List.not_mem_nil, or_false] at hx
    rcases hx with rfl | rfl | rfl
    · cases b0 <;> simp [cmpTurn, bindT, wipeM, k0, big]
    · cases b1 <;> simp [cmpTurn, bindT, wipeM, k1, big]
    · cases b2 <;> simp [cmpTurn, bindT, wipeM, k2, big]
  rw [e]
  cases b0 <;> cases b1 <;> cases b2 <;> rfl
theorem c_kind_broken (hP : P 84 = some Fn.x_law_kind_4) (k : Nat) (d x : PyData) (c : Nat) (hc : ∀ mh, (CF P sub k).call 209 [.dat d, .dat x] mh = .exc ⟨c, none⟩ mh) (b0 b1 b2 : Bool) (s5 : sub c 5 = some true) (s0 : sub c 15 = some b0) (s1 : sub c 11 = some b1) (s2 : sub c 29 = some b2) (mh : MH) :
    (CF P sub (k + 1)).call 84 [.dat (.str "broken"), .dat d, .dat x] mh = .ok (.dat (.list (kindsL b0 b1 b2))) mh := by
  rw [cf_succ hP]
  have e : cmpD .Eq (.str ("broken" : Str)) (.str ("rule" : Str)) = some false := by rw [eq_str]; rfl
  have s5' : (CF P sub k).sub c 5 = some true := s5
  have s0' : (CF P sub k).sub c 15 = some b0 := s0
  have s1' : (CF P sub k).sub c 11 = some b1 := s1
  have s2' : (CF P sub k).sub c 29 = some b2 := s2
  have hk := fun x0 x1 x2 x3 mh => itC_kinds (CF P sub k) b0 b1 b2 x0 x1 x2 x3 mh
  generalize kindsL b0 b1 b2 = kl at hk ⊢
  simp [runF, Fn.x_law_kind_4, RV.passes, RV.isDat, evS_try, e, hc, s5', s0', s1', s2', big, bindT, hk, RV.noX]
theorem c_kind_rule (hP : P 84 = some Fn.x_law_kind_4) (k : Nat) (d x : PyData) (c : Nat) (hc : ∀ mh, (CF P sub k).call 282 [.dat d, .dat x] mh = .exc ⟨c, none⟩ mh) (b0 b1 b2 : Bool) (s5 : sub c 5 = some true) (s0 : sub c 15 = some b0) (s1 : sub c 11 = some b1) (s2 : sub c 29 = some b2) (mh : MH) :
    (CF P sub (k + 1)).call 84 [.dat (.str "rule"), .dat d, .dat x] mh = .ok (.dat (.list (kindsL b0 b1 b2))) mh := by
  rw [cf_succ hP]
  have e : cmpD .Eq (.str ("rule" : Str)) (.str ("rule" : Str)) = some true := by rw [eq_str]; rfl
  have s5' : (CF P sub k).sub c 5 = some true := s5
  have s0' : (CF P sub k).sub c 15 = some b0 := s0
  have s1' : (CF P sub k).sub c 11 = some b1 := s1
  have s2' : (CF P sub k).sub c 29 = some b2 := s2
  have hk := fun x0 x1 x2 x3 mh => itC_kinds (CF P sub k) b0 b1 b2 x0 x1 x2 x3 mh
  generalize kindsL b0 b1 b2 = kl at hk ⊢
  simp [runF, Fn.x_law_kind_4, RV.passes, RV.isDat, evS_try, e, hc, s5', s0', s1', s2', big, bindT, hk, RV.noX]
theorem c_rule_no (h : HasBook P) (k : Nat) (w d : PyData) (hw : okD w = true) (hg : isGround w = false) (mh : MH) : (CF P sub (k + 5)).call 282 [.dat w, .dat d] mh = .exc ⟨15, none⟩ mh := by
  have c1 := fun mh => HasBook.ask (sub := sub) h k w mh hw
  rw [hg] at c1
  rw [cf_succ h.rr]
  simp [runF, Fn.is_rule, RV.passes, RV.isDat, c1]
end Mn
end
section
set_option linter.all false
set_option autoImplicit false
set_option maxRecDepth 100000
namespace Mn
open PySem
variable {P : Nat → Option FDef} {sub : Nat → Nat → Option Bool}
def lw0 : S := (.asg (.nm 1) (.idx (.idx (.var 0) (.cst (.int 0))) (.cst (.int 0))))
def lw1 : S := (.asg (.nm 2) (.idx (.idx (.idx (.var 0) (.cst (.int 0))) (.cst (.int 1))) (.cst (.int 0))))
def lw2 : S := (.asgO 3 (.lst (.cons (.cst .none) (.cons (.tup .nil) (.cons (.tup (.cons (.cst (.str "only")) .nil)) (.cons (.tup (.cons (.cst (.str "only")) (.cons (.var 1) .nil))) (.cons (.tup (.cons (.cst (.str "only")) (.cons (.var 1) (.cons (.var 2) .nil)))) (.cons (.tup (.cons (.cst (.str "only")) (.cons (.var 1) (.cons (.lst (.cons (.var 2) .nil)) .nil)))) (.cons (.tup (.cons (.cst (.str "only")) (.cons (.cst (.str "zz")) (.cons (.tup (.cons (.var 2) .nil)) .nil)))) (.cons (.tup (.cons (.cst (.str "only")) (.cons (.var 1) (.cons (.tup (.cons (.cst (.str "?")) .nil)) .nil)))) .nil))))))))))
def lw3 : S := (.asgO 3 (.cat (.var 3) (.lst (.cons (.tup (.cons (.cst (.str "only")) (.cons (.var 1) (.cons (.tup (.cons (.var 2) (.cons (.var 2) .nil))) .nil)))) (.cons (.tup (.cons (.cst (.str "only")) (.cons (.var 1) (.cons (.tup (.cons (.var 2) .nil)) (.cons (.cst (.int 0)) .nil))))) (.cons (.tup (.cons (.cst (.str "Only")) (.cons (.var 1) (.cons (.tup (.cons (.var 2) .nil)) .nil)))) (.cons (.lst (.cons (.cst (.str "only")) (.cons (.var 1) (.cons (.tup (.cons (.var 2) .nil)) .nil)))) (.cons (.tup (.cons (.cst (.str "only")) (.cons (.cst .none) (.cons (.tup (.cons (.var 2) .nil)) .nil)))) .nil))))))))
def lw4 : S := (.asgO 3 (.cat (.var 3) (.lst (.cons (.tup (.cons (.cst (.str "pairs")) (.cons (.var 1) (.cons (.var 1) (.cons (.tup .nil) .nil))))) (.cons (.tup (.cons (.cst (.str "pairs")) (.cons (.var 1) .nil))) (.cons (.tup (.cons (.cst (.str "either")) (.cons (.var 1) (.cons (.var 2) (.cons (.var 1) (.cons (.var 2) .nil)))))) (.cons (.tup (.cons (.cst (.str "either")) (.cons (.var 1) (.cons (.var 2) .nil)))) (.cons (.tup (.cons (.var 1) (.cons (.cst (.str "only")) (.cons (.tup (.cons (.var 2) .nil)) .nil)))) (.cons (.cst (.str "only")) (.cons (.cst (.int 3)) .nil))))))))))
def lw5 : S := (.asgO 3 (.cat (.var 3) (.lst (.cons (.tup (.cons (.cst (.str "only")) (.cons (.var 1) (.cons (.bin .Add (.blt .tup (.cons (.rev (.blt .lst (.cons (.idx (.idx (.var 0) (.cst (.int 0))) (.cst (.int 1))) .nil))) .nil)) (.tup (.cons (.var 2) .nil))) .nil)))) (.cons (.tup (.cons (.cst (.str "both")) (.cons (.var 1) (.cons (.var 2) (.cons (.var 1) (.cons (.var 2) .nil)))))) (.cons (.tup (.cons (.cst (.str "pairs")) (.cons (.var 1) (.cons (.cst (.str "zz")) (.cons (.tup .nil) .nil))))) (.cons (.tup (.cons (.cst .none) (.cons (.var 1) (.cons (.tup .nil) .nil)))) .nil)))))))
def lw6 : S := (.if_ (.cmp .Gt (.blt .len (.cons (.var 0) .nil)) (.cst (.int 1))) (.cons (.asg (.nm 4) (.idx (.idx (.var 0) (.cst (.int 1))) (.cst (.int 0)))) (.cons (.asg (.nm 5) (.idx (.idx (.idx (.var 0) (.cst (.int 1))) (.cst (.int 1))) (.cst (.int 0)))) (.cons (.asgO 3 (.cat (.var 3) (.lst (.cons (.tup (.cons (.cst (.str "pairs")) (.cons (.var 1) (.cons (.var 4) .nil)))) (.cons (.tup (.cons (.cst (.str "pairs")) (.cons (.var 1) (.cons (.var 4) (.cons (.cst .none) .nil))))) (.cons (.tup (.cons (.cst (.str "pairs")) (.cons (.var 1) (.cons (.var 4) (.cons (.lst (.cons (.tup (.cons (.var 2) (.cons (.var 5) .nil))) .nil)) .nil))))) (.cons (.tup (.cons (.cst (.str "pairs")) (.cons (.var 1) (.cons (.var 4) (.cons (.tup (.cons (.tup (.cons (.var 2) (.cons (.var 5) .nil))) (.cons (.tup (.cons (.var 2) (.cons (.var 5) .nil))) .nil))) .nil))))) .nil))))))) (.cons (.asgO 3 (.cat (.var 3) (.lst (.cons (.tup (.cons (.cst (.str "pairs")) (.cons (.var 1) (.cons (.var 4) (.cons (.tup (.cons (.tup (.cons (.var 2) .nil)) .nil)) .nil))))) (.cons (.tup (.cons (.cst (.str "pairs")) (.cons (.var 1) (.cons (.var 4) (.cons (.tup (.cons (.tup (.cons (.cst (.str "?")) (.cons (.var 5) .nil))) .nil)) .nil))))) (.cons (.tup (.cons (.cst (.str "pairs")) (.cons (.var 1) (.cons (.var 4) (.cons (.tup (.cons (.tup (.cons (.var 2) (.cons (.cst (.str "?")) .nil))) .nil)) .nil))))) (.cons (.tup (.cons (.cst (.str "pairs")) (.cons (.var 1) (.cons (.var 4) (.cons (.tup (.cons (.tup (.cons (.var 2) (.cons (.var 5) (.cons (.cst (.int 0)) .nil)))) .nil)) .nil))))) .nil))))))) (.cons (.asgO 3 (.cat (.var 3) (.lst (.cons (.tup (.cons (.cst (.str "either")) (.cons (.var 1) (.cons (.cst (.str "?")) (.cons (.var 4) (.cons (.var 5) .nil)))))) (.cons (.tup (.cons (.cst (.str "either")) (.cons (.var 1) (.cons (.var 2) (.cons (.var 4) (.cons (.cst (.str "?")) .nil)))))) (.cons (.tup (.cons (.cst (.str "either")) (.cons (.var 1) (.cons (.var 2) (.cons (.var 4) (.cons (.var 5) (.cons (.cst (.int 0)) .nil))))))) (.cons (.tup (.cons (.cst (.str "either")) (.cons (.var 1) (.cons (.var 2) (.cons (.cst (.str "zz")) (.cons (.var 5) .nil)))))) .nil))))))) (.cons (.asgO 3 (.cat (.var 3) (.lst (.cons (.tup (.cons (.cst (.str "either")) (.cons (.var 1) (.cons (.var 2) (.cons (.var 4) (.cons (.cst .none) .nil)))))) (.cons (.tup (.cons (.cst (.str "pairs")) (.cons (.var 1) (.cons (.var 4) (.cons (.tup .nil) (.cons (.tup .nil) .nil)))))) (.cons (.tup (.cons (.cst (.str "pairs")) (.cons (.var 4) (.cons (.var 4) (.cons (.tup .nil) .nil))))) (.cons (.tup (.cons (.cst (.str "either")) (.cons (.tup (.cons (.var 1) .nil)) (.cons (.var 2) (.cons (.var 4) (.cons (.var 5) .nil)))))) .nil))))))) (.cons (.if_ (.cmp .Gt (.blt .len (.cons (.idx (.idx (.var 0) (.cst (.int 1))) (.cst (.int 1))) .nil)) (.cst (.int 1))) (.cons (.app 3 (.tup (.cons (.cst (.str "pairs")) (.cons (.var 1) (.cons (.var 4) (.cons (.tup (.cons (.tup (.cons (.var 2) (.cons (.var 5) .nil))) (.cons (.tup (.cons (.var 2) (.cons (.idx (.idx (.idx (.var 0) (.cst (.int 1))) (.cst (.int 1))) (.cst (.int 1))) .nil))) .nil))) .nil)))))) (.cons (.app 3 (.tup (.cons (.cst (.str "pairs")) (.cons (.var 4) (.cons (.var 1) (.cons (.tup (.cons (.tup (.cons (.var 5) (.cons (.var 2) .nil))) (.cons (.tup (.cons (.idx (.idx (.idx (.var 0) (.cst (.int 1))) (.cst (.int 1))) (.cst (.int 1))) (.cons (.var 2) .nil))) .nil))) .nil)))))) .nil)) .nil) .nil))))))) .nil)
def lw7 : S := (.ret (.var 3))
theorem lw_run (C : CallF) (x0 : PyData) (mh : MH) : runF C Fn.x_law_wrongs [.dat x0] mh = bodyEnd (evSs C (.cons lw0 (.cons lw1 (.cons lw2 (.cons lw3 (.cons lw4 (.cons lw5 (.cons lw6 (.cons lw7 .nil)))))))) [some (.dat x0), none, none, none, none, none] mh) := rfl
def lx0 : S := (.asg (.nm 4) (.idx (.idx (.var 0) (.cst (.int 1))) (.cst (.int 0))))
def lx1 : S := (.asg (.nm 5) (.idx (.idx (.idx (.var 0) (.cst (.int 1))) (.cst (.int 1))) (.cst (.int 0))))
def lx2 : S := (.asgO 3 (.cat (.var 3) (.lst (.cons (.tup (.cons (.cst (.str "pairs")) (.cons (.var 1) (.cons (.var 4) .nil)))) (.cons (.tup (.cons (.cst (.str "pairs")) (.cons (.var 1) (.cons (.var 4) (.cons (.cst .none) .nil))))) (.cons (.tup (.cons (.cst (.str "pairs")) (.cons (.var 1) (.cons (.var 4) (.cons (.lst (.cons (.tup (.cons (.var 2) (.cons (.var 5) .nil))) .nil)) .nil))))) (.cons (.tup (.cons (.cst (.str "pairs")) (.cons (.var 1) (.cons (.var 4) (.cons (.tup (.cons (.tup (.cons (.var 2) (.cons (.var 5) .nil))) (.cons (.tup (.cons (.var 2) (.cons (.var 5) .nil))) .nil))) .nil))))) .nil)))))))
def lx3 : S := (.asgO 3 (.cat (.var 3) (.lst (.cons (.tup (.cons (.cst (.str "pairs")) (.cons (.var 1) (.cons (.var 4) (.cons (.tup (.cons (.tup (.cons (.var 2) .nil)) .nil)) .nil))))) (.cons (.tup (.cons (.cst (.str "pairs")) (.cons (.var 1) (.cons (.var 4) (.cons (.tup (.cons (.tup (.cons (.cst (.str "?")) (.cons (.var 5) .nil))) .nil)) .nil))))) (.cons (.tup (.cons (.cst (.str "pairs")) (.cons (.var 1) (.cons (.var 4) (.cons (.tup (.cons (.tup (.cons (.var 2) (.cons (.cst (.str "?")) .nil))) .nil)) .nil))))) (.cons (.tup (.cons (.cst (.str "pairs")) (.cons (.var 1) (.cons (.var 4) (.cons (.tup (.cons (.tup (.cons (.var 2) (.cons (.var 5) (.cons (.cst (.int 0)) .nil)))) .nil)) .nil))))) .nil)))))))
def lx4 : S := (.asgO 3 (.cat (.var 3) (.lst (.cons (.tup (.cons (.cst (.str "either")) (.cons (.var 1) (.cons (.cst (.str "?")) (.cons (.var 4) (.cons (.var 5) .nil)))))) (.cons (.tup (.cons (.cst (.str "either")) (.cons (.var 1) (.cons (.var 2) (.cons (.var 4) (.cons (.cst (.str "?")) .nil)))))) (.cons (.tup (.cons (.cst (.str "either")) (.cons (.var 1) (.cons (.var 2) (.cons (.var 4) (.cons (.var 5) (.cons (.cst (.int 0)) .nil))))))) (.cons (.tup (.cons (.cst (.str "either")) (.cons (.var 1) (.cons (.var 2) (.cons (.cst (.str "zz")) (.cons (.var 5) .nil)))))) .nil)))))))
def lx5 : S := (.asgO 3 (.cat (.var 3) (.lst (.cons (.tup (.cons (.cst (.str "either")) (.cons (.var 1) (.cons (.var 2) (.cons (.var 4) (.cons (.cst .none) .nil)))))) (.cons (.tup (.cons (.cst (.str "pairs")) (.cons (.var 1) (.cons (.var 4) (.cons (.tup .nil) (.cons (.tup .nil) .nil)))))) (.cons (.tup (.cons (.cst (.str "pairs")) (.cons (.var 4) (.cons (.var 4) (.cons (.tup .nil) .nil))))) (.cons (.tup (.cons (.cst (.str "either")) (.cons (.tup (.cons (.var 1) .nil)) (.cons (.var 2) (.cons (.var 4) (.cons (.var 5) .nil)))))) .nil)))))))
def lx6 : S := (.if_ (.cmp .Gt (.blt .len (.cons (.idx (.idx (.var 0) (.cst (.int 1))) (.cst (.int 1))) .nil)) (.cst (.int 1))) (.cons (.app 3 (.tup (.cons (.cst (.str "pairs")) (.cons (.var 1) (.cons (.var 4) (.cons (.tup (.cons (.tup (.cons (.var 2) (.cons (.var 5) .nil))) (.cons (.tup (.cons (.var 2) (.cons (.idx (.idx (.idx (.var 0) (.cst (.int 1))) (.cst (.int 1))) (.cst (.int 1))) .nil))) .nil))) .nil)))))) (.cons (.app 3 (.tup (.cons (.cst (.str "pairs")) (.cons (.var 4) (.cons (.var 1) (.cons (.tup (.cons (.tup (.cons (.var 5) (.cons (.var 2) .nil))) (.cons (.tup (.cons (.idx (.idx (.idx (.var 0) (.cst (.int 1))) (.cst (.int 1))) (.cst (.int 1))) (.cons (.var 2) .nil))) .nil))) .nil)))))) .nil)) .nil)
theorem lw6_eq : lw6 = .if_ (.cmp .Gt (.blt .len (.cons (.var 0) .nil)) (.cst (.int 1))) (.cons lx0 (.cons lx1 (.cons lx2 (.cons lx3 (.cons lx4 (.cons lx5 (.cons lx6 .nil))))))) .nil := rfl
section
variable (a u b w : PyData)
def wA : List PyData := [.none, .tuple [], .tuple [.str "only"], .tuple [.str "only", a], .tuple [.str "only", a, u], .tuple [.str "only", a, .list [u]], .tuple [.str "only", .str "zz", .tuple [u]], .tuple [.str "only", a, .tuple [.str "?"]]]
def wB : List PyData := [.tuple [.str "only", a, .tuple [u, u]], .tuple [.str "only", a, .tuple [u], .int 0], .tuple [.str "Only", a, .tuple [u]], .list [.str "only", a, .tuple [u]], .tuple [.str "only", .none, .tuple [u]]]
def wC : List PyData := [.tuple [.str "pairs", a, a, .tuple []], .tuple [.str "pairs", a], .tuple [.str "either", a, u, a, u], .tuple [.str "either", a, u], .tuple [a, .str "only", .tuple [u]], .str "only", .int 3]
def wD (rv : List PyData) : List PyData := [.tuple [.str "only", a, .tuple (rv ++ [u])], .tuple [.str "both", a, u, a, u], .tuple [.str "pairs", a, .str "zz", .tuple []], .tuple [.none, a, .tuple []]]
def wE : List PyData := [.tuple [.str "pairs", a, b], .tuple [.str "pairs", a, b, .none], .tuple [.str "pairs", a, b, .list [.tuple [u, w]]], .tuple [.str "pairs", a, b, .tuple [.tuple [u, w], .tuple [u, w]]]]
def wF : List PyData := [.tuple [.str "pairs", a, b, .tuple [.tuple [u]]], .tuple [.str "pairs", a, b, .tuple [.tuple [.str "?", w]]], .tuple [.str "pairs", a, b, .tuple [.tuple [u, .str "?"]]], .tuple [.str "pairs", a, b, .tuple [.tuple [u, w, .int 0]]]]
def wG : List PyData := [.tuple [.str "either", a, .str "?", b, w], .tuple [.str "either", a, u, b, .str "?"], .tuple [.str "either", a, u, b, w, .int 0], .tuple [.str "either", a, u, .str "zz", w]]
def wH : List PyData := [.tuple [.str "either", a, u, b, .none], .tuple [.str "pairs", a, b, .tuple [], .tuple []], .tuple [.str "pairs", b, b, .tuple []], .tuple [.str "either", .tuple [a], u, b, w]]
def wI (w1 : PyData) : List PyData := [.tuple [.str "pairs", a, b, .tuple [.tuple [u, w], .tuple [u, w1]]], .tuple [.str "pairs", b, a, .tuple [.tuple [w, u], .tuple [w1, u]]]]
end
section
variable {C : CallF} {gg lf lg ta tb a u b w w1 : PyData} {L rv : List PyData} {x1 x2 x4 x5 : Option RV} {mh : MH}
abbrev lwE (gg : PyData) (x1 x2 : Option RV) (x3 : Option RV) (x4 x5 : Option RV) : MEnv := [some (.dat gg), x1, x2, x3, x4, x5]
theorem w0 (i0 : idxD gg (.int 0) = some lf) (p0 : idxD lf (.int 0) = some a) : evS C lw0 (lwE gg none none none none none) mh = .next (lwE gg (some (.dat a)) none none none none) mh := by
  simp [lw0, i0, p0, bindT]
theorem w1_ (i0 : idxD gg (.int 0) = some lf) (p1 : idxD lf (.int 1) = some ta) (q0 : idxD ta (.int 0) = some u) : evS C lw1 (lwE gg x1 none none none none) mh = .next (lwE gg x1 (some (.dat u)) none none none) mh := by
  simp [lw1, i0, p1, q0, bindT]
theorem w2_ : evS C lw2 (lwE gg (some (.dat a)) (some (.dat u)) none none none) mh = .next (lwE gg (some (.dat a)) (some (.dat u)) (some (.olst (wA a u))) none none) mh := by
  simp [lw2, big, freshV, isFresh, setN, wA]
theorem w3_ (hb : L.length ≤ 50) : evS C lw3 (lwE gg (some (.dat a)) (some (.dat u)) (some (.olst L)) none none) mh = .next (lwE gg (some (.dat a)) (some (.dat u)) (some (.olst (L ++ wB a u))) none none) mh := by
  have h : L.length + 5 ≤ 16777216 := by omega
  simp [lw3, big, freshV, isFresh, setN, wB, h]
theorem w4_ (hb : L.length ≤ 50) : evS C lw4 (lwE gg (some (.dat a)) (some (.dat u)) (some (.olst L)) none none) mh = .next (lwE gg (some (.dat a)) (some (.dat u)) (some (.olst (L ++ wC a u))) none none) mh := by
  have h : L.length + 7 ≤ 16777216 := by omega
  simp [lw4, big, freshV, isFresh, setN, wC, h]
theorem w5_ (hb : L.length ≤ 50) (i0 : idxD gg (.int 0) = some lf) (p1 : idxD lf (.int 1) = some ta) (hl : lstD ta = some (.list rv)) (hr : rv.length ≤ 50) : evS C lw5 (lwE gg (some (.dat a)) (some (.dat u)) (some (.olst L)) none none) mh = .next (lwE gg (some (.dat a)) (some (.dat u)) (some (.olst (L ++ wD a u rv.reverse))) none none) mh := by
  have h : L.length + 4 ≤ 16777216 := by omega
  have hv : revD (.list rv) = some (.list rv.reverse) := rfl
  have ad : binD .Add (.tuple rv.reverse) (.tuple [u]) = some (.tuple (rv.reverse ++ [u])) := by
    show (if big (rv.reverse.length + 1) then some (PyData.tuple (rv.reverse ++ [u])) else none) = _
    rw [show big (rv.reverse.length + 1) = true from decide_eq_true (by rw [List.length_reverse]; omega)]; rfl
  generalize rv.reverse = rr at hv ad ⊢
  simp [lw5, big, freshV, isFresh, setN, wD, h, i0, p1, bltD, un, hl, hv, tupD, ad]
theorem w6_no (hn : lenD gg = some (.int 1)) : evS C lw6 (lwE gg x1 x2 (some (.olst L)) none none) mh = .next (lwE gg x1 x2 (some (.olst L)) none none) mh := by
  have e : cmpD .Gt (.int 1) (.int 1) = some false := cmp_gt_int _ _
  simp [lw6, bltD, un, hn, e]
abbrev lwF (gg a u : PyData) (L : List PyData) (b w : PyData) : MEnv := lwE gg (some (.dat a)) (some (.dat u)) (some (.olst L)) (some (.dat b)) (some (.dat w))
theorem y0 (i1 : idxD gg (.int 1) = some lg) (p0 : idxD lg (.int 0) = some b) : evS C lx0 (lwE gg x1 x2 (some (.olst L)) none none) mh = .next (lwE gg x1 x2 (some (.olst L)) (some (.dat b)) none) mh := by
  simp [lx0, i1, p0, bindT]
theorem y1 (i1 : idxD gg (.int 1) = some lg) (p1 : idxD lg (.int 1) = some tb) (q0 : idxD tb (.int 0) = some w) : evS C lx1 (lwE gg x1 x2 (some (.olst L)) x4 none) mh = .next (lwE gg x1 x2 (some (.olst L)) x4 (some (.dat w))) mh := by
  simp [lx1, i1, p1, q0, bindT]
theorem y2 (hb : L.length ≤ 100) : evS C lx2 (lwF gg a u L b w) mh = .next (lwF gg a u (L ++ wE a u b w) b w) mh := by
  have h : L.length + 4 ≤ 16777216 := by omega
  simp [lx2, big, freshV, isFresh, setN, wE, h]
theorem y3 (hb : L.length ≤ 100) : evS C lx3 (lwF gg a u L b w) mh = .next (lwF gg a u (L ++ wF a u b w) b w) mh := by
  have h : L.length + 4 ≤ 16777216 := by omega
  simp [lx3, big, freshV, isFresh, setN, wF, h]
theorem y4 (hb : L.length ≤ 100) : evS C lx4 (lwF gg a u L b w) mh = .next (lwF gg a u (L ++ wG a u b w) b w) mh := by
  have h : L.length + 4 ≤ 16777216 := by omega
  simp [lx4, big, freshV, isFresh, setN, wG, h]
theorem y5 (hb : L.length ≤ 100) : evS C lx5 (lwF gg a u L b w) mh = .next (lwF gg a u (L ++ wH a u b w) b w) mh := by
  have h : L.length + 4 ≤ 16777216 := by omega
  simp [lx5, big, freshV, isFresh, setN, wH, h]
theorem y6_no {m : Nat} (i1 : idxD gg (.int 1) = some lg) (p1 : idxD lg (.int 1) = some tb) (hm : lenD tb = some (.int m)) (h2 : ¬ 2 ≤ m) : evS C lx6 (lwF gg a u L b w) mh = .next (lwF gg a u L b w) mh := by
  have e2 : cmpD .Gt (.int (m : Int)) (.int 1) = some false := by rw [cmp_gt_int, decide_eq_false (by omega)]
  simp [lx6, bltD, un, i1, p1, hm, e2]
theorem y6_yes {m : Nat} (hb : L.length ≤ 100) (i1 : idxD gg (.int 1) = some lg) (p1 : idxD lg (.int 1) = some tb) (hm : lenD tb = some (.int m)) (h2 : 2 ≤ m) (q1 : idxD tb (.int 1) = some w1) : evS C lx6 (lwF gg a u L b w) mh = .next (lwF gg a u (L ++ wI a u b w w1) b w) mh := by
  have e2 : cmpD .Gt (.int (m : Int)) (.int 1) = some true := by rw [cmp_gt_int, decide_eq_true (by omega)]
  have h1 : L.length + 1 ≤ 16777216 := by omega
  have h3 : L.length + 1 + 1 ≤ 16777216 := by omega
  have h8 : L.length ≤ 16777214 := by omega
  have h9 : L.length ≤ 16777215 := by omega
  simp [lx6, bltD, un, i1, p1, hm, e2, q1, lstAt, upR, appD, big, wI, h1, h3, h8, h9]
def wMore (a u b w w1 : PyData) (m : Nat) : List PyData := wE a u b w ++ (wF a u b w ++ (wG a u b w ++ (wH a u b w ++ (if 2 ≤ m then wI a u b w w1 else []))))
theorem w6_yes {n m : Nat} (hb : L.length ≤ 50) (hn : lenD gg = some (.int n)) (h2 : 2 ≤ n) (i1 : idxD gg (.int 1) = some lg) (p0 : idxD lg (.int 0) = some b) (p1 : idxD lg (.int 1) = some tb) (q0 : idxD tb (.int 0) = some w) (hm : lenD tb = some (.int m)) (q1 : 2 ≤ m → idxD tb (.int 1) = some w1) :
    evS C lw6 (lwE gg (some (.dat a)) (some (.dat u)) (some (.olst L)) none none) mh = .next (lwF gg a u (L ++ wMore a u b w w1 m) b w) mh := by
  have e : cmpD .Gt (.int (n : Int)) (.int 1) = some true := by rw [cmp_gt_int, decide_eq_true (by omega)]
  have key : evSs C (.cons lx0 (.cons lx1 (.cons lx2 (.cons lx3 (.cons lx4 (.cons lx5 (.cons lx6 .nil))))))) (lwE gg (some (.dat a)) (some (.dat u)) (some (.olst L)) none none) mh = .next (lwF gg a u (L ++ wMore a u b w w1 m) b w) mh := by
    have l1 : (L ++ wE a u b w).length ≤ 100 := by rw [List.length_append]; show L.length + 4 ≤ 100; omega
    have l2 : (L ++ wE a u b w ++ wF a u b w).length ≤ 100 := by rw [List.length_append, List.length_append]; show L.length + 4 + 4 ≤ 100; omega
    have l3 : (L ++ wE a u b w ++ wF a u b w ++ wG a u b w).length ≤ 100 := by rw [List.length_append, List.length_append, List.length_append]; show L.length + 4 + 4 + 4 ≤ 100; omega
    have l4 : (L ++ wE a u b w ++ wF a u b w ++ wG a u b w ++ wH a u b w).length ≤ 100 := by rw [List.length_append, List.length_append, List.length_append, List.length_append]; show L.length + 4 + 4 + 4 + 4 ≤ 100; omega
    refine stepN (y0 i1 p0) (stepN (y1 i1 p1 q0) (stepN (y2 (by omega)) (stepN (y3 l1) (stepN (y4 l2) (stepN (y5 l3) ?_)))))
    unfold wMore
    by_cases h : 2 ≤ m
    · rw [if_pos h]
      refine (stepN (y6_yes l4 i1 p1 hm h (q1 h)) (evSs_nil _ _)).trans ?_
      simp only [List.append_assoc]
    · rw [if_neg h]
      refine (stepN (y6_no i1 p1 hm h) (evSs_nil _ _)).trans ?_
      simp only [List.append_assoc, List.append_nil]
  rw [lw6_eq, evS_if]
  have hc : evT C (.cmp .Gt (.blt .len (.cons (.var 0) .nil)) (.cst (.int 1))) (lwE gg (some (.dat a)) (some (.dat u)) (some (.olst L)) none none) mh = .ok true mh := by
    simp [bltD, un, hn, e]
  rw [hc]
  exact key
end
/-- the rules with one thing wrong -/
def wrongsR (g : Gr) : List PyData := match g with
  | p :: g => let a : PyData := .str p.1
    let u : PyData := .str (p.2.headD "")
    wA a u ++ (wB a u ++ (wC a u ++ (wD a u (p.2.map PyData.str).reverse ++ (match g with
      | q :: _ => wMore a u (.str q.1) (.str (q.2.headD "")) (.str (q.2.getD 1 "")) q.2.length
      | [] => []))))
  | [] => []
theorem c_wrongsR (hP : P 174 = some Fn.x_law_wrongs) (k : Nat) (g : Gr) (hg : goodG g) (h1 : 1 ≤ g.length) (hl5 : g.length ≤ 5) (mh : MH) : (CF P sub (k + 1)).call 174 [.dat (gD g)] mh = .ok (.dat (.list (wrongsR g))) mh := by
  rw [cf_succ hP, lw_run]
  cases g with
  | nil => simp at h1
  | cons p g =>
    have hw : ∀ ws ∈ gWorths, 1 ≤ ws.length ∧ ws.length ≤ 3 := by decide
    obtain ⟨hp1, hp3⟩ := hw _ (hg.2 p List.mem_cons_self)
    have i0 : idxD (gD (p :: g)) (.int 0) = some (leafD p) := by
      show atD ((p :: g).map leafD) ((0 : Nat) : Int) = _
      rw [atD_nat]; rfl
    have at0 : ∀ ws : List Str, 1 ≤ ws.length → idxD (tS ws) (.int 0) = some (.str (ws.headD "")) := fun ws h => by
      cases ws with
      | nil => simp at h
      | cons w r =>
        show atD ((w :: r).map .str) ((0 : Nat) : Int) = _
        rw [atD_nat]; rfl
    have hl : lstD (tS p.2) = some (.list (p.2.map .str)) := rfl
    show bodyEnd (evSs (CF P sub k) (.cons lw0 (.cons lw1 (.cons lw2 (.cons lw3 (.cons lw4 (.cons lw5 (.cons lw6 (.cons lw7 .nil)))))))) (lwE (gD (p :: g)) none none none none none) mh) = _
    have fin : ∀ (L : List PyData) (x1 x2 x4 x5 : Option RV), evSs (CF P sub k) (.cons lw7 .nil) (lwE (gD (p :: g)) x1 x2 (some (.olst L)) x4 x5) mh = .ret (.dat (.list L)) mh := fun L x1 x2 x4 x5 => by
      generalize gD (p :: g) = gg
      refine stepR ?_
      simp [lw7, frzR]
    have pre : ∀ o, evSs (CF P sub k) (.cons lw6 (.cons lw7 .nil)) (lwE (gD (p :: g)) (some (.dat (.str p.1))) (some (.dat (.str (p.2.headD "")))) (some (.olst (wA (.str p.1) (.str (p.2.headD "")) ++ wB (.str p.1) (.str (p.2.headD "")) ++ wC (.str p.1) (.str (p.2.headD "")) ++ wD (.str p.1) (.str (p.2.headD "")) (p.2.map PyData.str).reverse))) none none) mh = o →
        evSs (CF P sub k) (.cons lw0 (.cons lw1 (.cons lw2 (.cons lw3 (.cons lw4 (.cons lw5 (.cons lw6 (.cons lw7 .nil)))))))) (lwE (gD (p :: g)) none none none none none) mh = o := fun o h => by
      refine stepN (w0 i0 rfl) (stepN (w1_ i0 rfl (at0 _ hp1)) (stepN w2_ (stepN (w3_ (by show 8 ≤ 50; omega)) (stepN (w4_ (by rw [List.length_append]; show 8 + 5 ≤ 50; omega)) (stepN (w5_ (by rw [List.length_append, List.length_append]; show 8 + 5 + 7 ≤ 50; omega) i0 rfl hl (by rw [List.length_map]; omega)) h)))))
    cases g with
    | nil =>
      rw [pre _ (stepN (w6_no rfl) (fin _ _ _ _ _))]
      show Out.ok (RV.dat (.list _)) mh = .ok (.dat (.list (wA _ _ ++ (wB _ _ ++ (wC _ _ ++ (wD _ _ _ ++ [])))))) mh
      simp only [List.append_assoc, List.append_nil]
    | cons q g =>
      obtain ⟨hq1, hq3⟩ := hw _ (hg.2 q (by simp))
      have i1 : idxD (gD (p :: q :: g)) (.int 1) = some (leafD q) := by
        show atD ((p :: q :: g).map leafD) ((1 : Nat) : Int) = _
        rw [atD_nat]; rfl
      have hn : lenD (gD (p :: q :: g)) = some (.int ((g.length + 2 : Nat) : Int)) := by
        show some (PyData.int (((p :: q :: g).map leafD).length : Int)) = _
        rw [List.length_map]; rfl
      have q1 : 2 ≤ q.2.length → idxD (tS q.2) (.int 1) = some (.str (q.2.getD 1 "")) := fun h => by
        show atD (q.2.map .str) ((1 : Nat) : Int) = _
        rw [atD_nat, List.getElem?_map, List.getD_eq_getElem?_getD, List.getElem?_eq_getElem (by omega)]; rfl
      rw [pre _ (stepN (w6_yes (w1 := .str (q.2.getD 1 "")) (by
        rw [List.length_append, List.length_append, List.length_append]; show 8 + 5 + 7 + 4 ≤ 50; omega) hn (by omega) i1 rfl rfl (at0 _ hq1) (lenD_tS q.2) q1) (fin _ _ _ _ _))]
      show Out.ok (RV.dat (.list _)) mh = .ok (.dat (.list (wA _ _ ++ (wB _ _ ++ (wC _ _ ++ (wD _ _ _ ++ wMore _ _ _ _ _ _)))))) mh
      simp only [List.append_assoc]
end Mn
end
section
set_option linter.all false
set_option autoImplicit false
set_option maxRecDepth 100000
namespace Mn
open PySem
/-- the names that a rule's reading asks of the ground -/
def asked : PyData → List Str
  | .tuple [.str _, .str a, _] => [a]
  | .tuple [.str _, .str a, .str b, _] => [a, b]
  | .tuple [.str _, .str a, _, .str b, _] => [a, b]
  | _ => []
theorem asked_eq {g h : Gr} : ∀ (d : PyData), (∀ n ∈ asked d, look g n = look h n) → isRuleOf g d = isRuleOf h d := by
  intro d hd
  unfold isRuleOf asked at *
  split at hd
  · rename_i s a x
    simp only [ruleO, hd a List.mem_cons_self]
  · rename_i s a b y
    simp only [ruleP, hd a List.mem_cons_self, hd b (by simp)]
  · rename_i s a x b z
    simp only [ruleE, hd a List.mem_cons_self, hd b (by simp)]
  · first
    | rfl
    | (rename_i h1 h2 h3
       split
       · rename_i s a x; exact absurd rfl (h1 s a x)
       · rename_i s a b x; exact absurd rfl (h2 s a b x)
       · rename_i s a x b y; exact absurd rfl (h3 s a x b y)
       · rfl)
theorem look_cut (g : Gr) (n : Str) (m : Nat) (h : n ∉ (g.drop m).map (·.1)) : look g n = look (g.take m) n := by
  induction g generalizing m with
  | nil => cases m <;> rfl
  | cons p g ih =>
    cases m with
    | zero =>
      have : ∀ g : Gr, n ∉ g.map (·.1) → look g n = none := by
        intro g
        induction g with
        | nil => intro _; rfl
        | cons q g ih =>
          intro h
          rw [List.map_cons, List.mem_cons, not_or] at h
          unfold look
          rw [if_neg (fun e => h.1 e.symm)]
          exact ih h.2
      exact this _ h
    | succ m =>
      show (if p.1 = n then some p.2 else look g n) = (if p.1 = n then some p.2 else look (g.take m) n)
      rw [ih m h]
def wrongCheck (g : Gr) : Bool := (wrongsR g).all fun d => !isRuleOf g d && (okD d && (asked d).all fun n => decide (n ∉ (["c", "dd", "e"] : List Str)))
theorem wrong_one : ∀ wa ∈ gWorths, wrongCheck [("a", wa)] = true := by decide +kernel
theorem wrong_two : ∀ wa ∈ gWorths, ∀ wb ∈ gWorths, wrongCheck [("a", wa), ("b1", wb)] = true := by decide +kernel
theorem wrongsR_no (g : Gr) (hg : goodG g) (h1 : 1 ≤ g.length) (hl5 : g.length ≤ 5) : ∀ w ∈ wrongsR g, isRuleOf g w = false ∧ okD w = true := by
  intro w hw
  have hn := hg.1
  have hc : wrongCheck (g.take 2) = true := by
    match g, h1, hg with
    | [(a, wa)], _, hg =>
      have e : a = "a" := (List.cons.inj hg.1).1
      subst e
      exact wrong_one wa (hg.2 _ List.mem_cons_self)
    | (a, wa) :: (b, wb) :: g, _, hg =>
      have e : a = "a" := by
        have := hg.1
        rw [List.map_cons, List.length_cons] at this
        exact (List.cons.inj this).1
      have e2 : b = "b1" := by
        have := hg.1
        rw [List.map_cons, List.map_cons, List.length_cons, List.length_cons] at this
        exact (List.cons.inj (List.cons.inj this).2).1
      subst e; subst e2
      exact wrong_two wa (hg.2 _ List.mem_cons_self) wb (hg.2 ("b1", wb) (by simp))
  have hw2 : w ∈ wrongsR (g.take 2) := by
    match g, h1, hw with
    | [p], _, hw => exact hw
    | p :: q :: g, _, hw => exact hw
  have h3 := List.all_eq_true.mp hc w hw2
  simp only [Bool.and_eq_true, List.all_eq_true] at h3
  refine ⟨?_, h3.2.1⟩
  rw [asked_eq (h := g.take 2) w fun n hn' => look_cut g n 2 fun hm => of_decide_eq_true (h3.2.2 n hn') ?_]
  · simpa using h3.1
  · rw [List.map_drop, hn] at hm
    have : ∀ m ≤ 5, ∀ x ∈ ((gNames.take m).drop 2), x ∈ (["c", "dd", "e"] : List Str) := by decide +kernel
    exact this g.length hl5 n hm
theorem wrongsR_len (g : Gr) : (wrongsR g).length ≤ 100 := by
  match g with
  | [] => decide
  | [p] => simp [wrongsR, wA, wB, wC, wD]
  | p :: q :: g =>
    simp only [wrongsR, wMore, List.length_append]
    have : (if 2 ≤ q.2.length then wI (.str p.1) (.str (p.2.headD "")) (.str q.1) (.str (q.2.headD "")) (.str (q.2.getD 1 "")) else []).length ≤ 2 := by split <;> simp [wI]
    simp only [wA, wB, wC, wD, wE, wF, wG, wH, List.length_cons, List.length_nil]
    omega
end Mn
end
section
set_option linter.all false
set_option autoImplicit false
set_option maxRecDepth 100000
namespace Mn
open PySem
variable {P : Nat → Option FDef} {sub : Nat → Nat → Option Bool}
theorem isB (a b : Bool) : cmpD .Is (.bool a) (.bool b) = some (decide (a = b)) := rfl
theorem isNB (a b : Bool) : cmpD .IsNot (.bool a) (.bool b) = some (!decide (a = b)) := rfl
theorem cutT {α : Type} (x : α) (xs : List α) : cutD (x :: xs) (some 1) none = xs := by
  have h : HT.sIx (x :: xs).length 0 (some 1) = 1 := by
    rw [show (1 : Int) = ((1 : Nat) : Int) from rfl, HT.sIx_nat]; simp
  unfold cutD
  rw [h, HT.sIx_none]
  simp
theorem cutFrom {α : Type} (xs : List α) (n : Nat) (h : n ≤ xs.length) : cutD xs (some (n : Int)) none = xs.drop n := by
  have h : HT.sIx xs.length 0 (some (n : Int)) = n := by
    rw [HT.sIx_nat]; omega
  unfold cutD
  rw [h, HT.sIx_none]
  exact List.take_of_length_le (by simp)
theorem cutTo {α : Type} (xs : List α) (n : Nat) (h : n ≤ xs.length) : cutD xs none (some (n : Int)) = xs.take n := by
  have h : HT.sIx xs.length xs.length (some (n : Int)) = n := by
    rw [HT.sIx_nat]; omega
  unfold cutD
  rw [h, HT.sIx_none]
  simp
theorem addT (xs ys : List PyData) (h : big (xs.length + ys.length) = true) : binD .Add (.tuple xs) (.tuple ys) = some (.tuple (xs ++ ys)) := by simp [binD, h]
/-- a loop that leaves all but its name as it is -/
theorem loop_same {C : CallF} {i : Nat} {body : Ss} {mh : MH} (E : Option RV → MEnv) (hb : ∀ x c, bindT (.nm i) x (E c) = some (E (some (.dat x)))) (xs : List PyData) (h : ∀ x ∈ xs, evSs C body (E (some (.dat x))) mh = .next (E (some (.dat x))) mh) (c : Option RV) :
    ∃ c', forB C (.nm i) body xs (E c) mh = .next (E c') mh := by
  obtain ⟨env', e, c', rfl⟩ := (forB_until (C := C) (t := .nm i) (body := body) (I := fun env => ∃ c, env = E c) (P := fun _ => true) (r := .dat .none) (mh := mh) xs (E c) ⟨c, rfl⟩ (by
    rintro x hx env ⟨c, rfl⟩
    exact ⟨E (some (.dat x)), hb x c, fun _ => ⟨_, .inl (h x hx), _, rfl⟩, fun h => by cases h⟩)).1 (by simp)
  exact ⟨c', e⟩
theorem itC_const (C : CallF) (j v n : Nat) (d : PyData) (env : MEnv) (hj : env[j]? = some (some (.dat d))) (hjv : v ≠ j) (hv : v < env.length) (hn : n ≤ 2000) (mh : MH) :
    (evP C (.comp (.var j) (.nm v) (.rng1 (.cst (.int n))) (.cst (.bool true)) [v])).1 env mh = .ok (.dat (.list (List.replicate n d))) mh := by
  have h2 := ev_map (C := C) (elt := .var j) (tg := .nm v) (it := .rng1 (.cst (.int n))) (c := .cst (.bool true)) (own := [v]) (env := env) (mh := mh) (mh1 := mh) (xs := rngD 0 n) (f := fun _ => d)
    (by
      have h1 : (-16777216 : Int) ≤ n := by omega
      have h2 : (n : Int) ≤ 16777216 := by omega
      simp [evIt, h1, h2])
    (by rw [rngD_len]; exact decide_eq_true (by omega)) (fun x hx => by
      simp [cmpTurn, bindT, wipeM, hv, hj, List.getElem?_set_ne hjv])
  rw [h2, List.map_const', rngD_len]
/-- the law's own comprehension of the rules that are not kept -/
theorem itC_due (hP : P 82 = some Fn.x_law_keeps) (k : Nat) (bd : PyData) (rs : List Rule) (t : Tl) (ht : ∀ r ∈ rs, lkIn t r) (i1 : idxD bd (.int 1) = some (.tuple (rs.map ruleD))) (hb : rs.length ≤ 1000) (env : MEnv) (h3 : env[3]? = some (some (.dat bd))) (h7 : env[7]? = some (some (.dat (.dict (tK t))))) (h9 : 9 < env.length) (mh : MH) :
    (evP (CF P sub (k + 1)) (.comp (.var 9) (.nm 9) (.rng1 (.blt .len (.cons (.idx (.var 3) (.cst (.int 1))) .nil))) (.not_ (.pcall 82 (.cons (.idx (.idx (.var 3) (.cst (.int 1))) (.var 9)) (.cons (.var 7) .nil)))) [9])).1 env mh = .ok (.dat (.list (unkeptD t rs))) mh := by
  have hl : lenD (.tuple (rs.map ruleD)) = some (.int (rs.length : Int)) := by
    show some (PyData.int ((rs.map ruleD).length : Int)) = _
    rw [List.length_map]
  have e := ev_comp (C := CF P sub (k + 1)) (elt := .var 9) (tg := .nm 9) (it := .rng1 (.blt .len (.cons (.idx (.var 3) (.cst (.int 1))) .nil))) (c := .not_ (.pcall 82 (.cons (.idx (.idx (.var 3) (.cst (.int 1))) (.var 9)) (.cons (.var 7) .nil)))) (own := [9]) (env := env) (mh := mh) (mh1 := mh) (xs := rngD 0 rs.length)
    (f := fun d => match d with
      | .int i => (match rs[i.toNat]? with
        | some r => if !keepsR t r then some (.int i) else none
        | none => none)
      | _ => none)
    (by
      have b1 : (-16777216 : Int) ≤ rs.length := by omega
      have b2 : (rs.length : Int) ≤ 16777216 := by omega
      generalize PyData.tuple (rs.map ruleD) = td at i1 hl
      generalize rs.length = n at hl b1 b2 ⊢
      simp [evIt, h3, i1, bltD, un, hl, b1, b2]) (by rw [rngD_len]; exact decide_eq_true (by omega)) fun x hx => by
    rw [rngD_map] at hx
    obtain ⟨i, hi, rfl⟩ := List.mem_map.mp hx
    have hi := List.mem_range.mp hi
    have e1 : rs[i]? = some rs[i] := List.getElem?_eq_getElem hi
    have c := c_lkeeps (sub := sub) hP k t rs[i] (ht _ (List.getElem_mem hi))
    have e3 : (0 + (i : Int)) = i := by omega
    have e4 : ((i : Int)).toNat = i := by omega
    have ix : idxD (.tuple (rs.map ruleD)) (.int (i : Int)) = some (ruleD rs[i]) := by
      show atD (rs.map ruleD) ((i : Nat) : Int) = _
      rw [atD_nat, List.getElem?_map, e1]; rfl
    rw [e3]
    show _ = Out.ok (match rs[((i : Int)).toNat]? with | some r => if !keepsR t r then some (PyData.int (i : Int)) else none | none => none) mh
    rw [e4, e1]
    show _ = Out.ok (if !keepsR t rs[i] then some (PyData.int (i : Int)) else none) mh
    generalize keepsR t rs[i] = b at c ⊢
    generalize ruleD rs[i] = rd at c ix ⊢
    generalize PyData.dict (tK t) = td at c h7 ⊢
    generalize PyData.tuple (rs.map ruleD) = bl at i1 ix
    cases b <;> simp [cmpTurn, bindT, wipeM, RV.isDat, c, h3, h7, h9, i1, ix]
  rw [e, rngD_map, List.filterMap_map]
  congr 3
  unfold unkeptD unkept
  rw [← filterMap_if]
  refine fm_congr fun i hi => ?_
  have hi := List.mem_range.mp hi
  have e1 : rs[i]? = some rs[i] := List.getElem?_eq_getElem hi
  have e3 : (0 + (i : Int)) = i := by omega
  have e4 : ((i : Int)).toNat = i := by omega
  show (match rs[(0 + (i : Int)).toNat]? with | some r => if !keepsR t r then some (PyData.int (0 + (i : Int))) else none | none => none) = if (match rs[i]? with | some r => !keepsR t r | none => false) = true then some (PyData.int (i : Int)) else none
  rw [e3, e4, e1]
/-! ### books that are none -/
theorem okD_tup2 {xs : List PyData} (hl : xs.length ≤ 5000) (h : ∀ x ∈ xs, okD x = true) : okD (.tuple xs) = true := by
  show (big xs.length && okD.okA xs) = true
  rw [okA_all h, Bool.and_true]
  exact decide_eq_true (by omega)
theorem all_rep (p : PyData → Bool) (d : PyData) (h : p d = true) (n : Nat) : (List.replicate n d).all p = true :=
  List.all_eq_true.mpr fun x hx => by rw [(List.mem_replicate.mp hx).2]; exact h
def onlyD (a : Str) : PyData := .tuple [.str "only", .str a, .tuple []]
theorem only_rule (p : Str × List Str) (g : Gr) (hp : p.2 ∈ gWorths) : isRuleOf (p :: g) (onlyD p.1) = true := by
  show ruleO (p :: g) "only" p.1 (.tuple []) = true
  unfold ruleO
  have : look (p :: g) p.1 = some p.2 := if_pos rfl
  rw [this]
  have h := only_good p.2 hp [] (subs_mem (List.nil_sublist _))
  rw [Bool.and_eq_true] at h
  show (decide _ && onlyOk (.tuple []) p.2) = true
  rw [decide_eq_true rfl]
  exact h.1
theorem only_okD (a : Str) (h : big a.length = true) : okD (onlyD a) = true := by
  show (big 3 && (big 4 && (big a.length && ((big 0 && true) && true)))) = true
  rw [h]; rfl
theorem rep_okD (n : Nat) (hn : n ≤ 2000) (d : PyData) (hd : okD d = true) : okD (.tuple (List.replicate n d)) = true :=
  okD_tup2 (by rw [List.length_replicate]; omega) fun x hx => by rw [(List.mem_replicate.mp hx).2]; exact hd
theorem rep_book (g : Gr) (n : Nat) (d : PyData) (hd : isRuleOf g d = true) : bookOk g (List.replicate n d) = decide ((n : Int) ≤ 1000) := by
  unfold bookOk
  rw [all_rep _ _ hd, Bool.and_true, List.length_replicate]
theorem book_in {g : Gr} {xs ys : List PyData} {w : PyData} (h : isRuleOf g w = false) : bookOk g (xs ++ [w] ++ ys) = false := by
  unfold bookOk
  rw [List.all_append, List.all_append]
  show (_ && ((_ && (isRuleOf g w && true)) && _)) = false
  rw [h]; simp
theorem okD_in {xs ys : List PyData} {w : PyData} {n : Nat} (h : okD (.tuple (xs ++ ys)) = true) (hl : (xs ++ ys).length ≤ 100) (hw : okD w = true) : okD (.tuple (xs ++ [w] ++ ys)) = true := by
  refine okD_tup2 (by simp only [List.length_append, List.length_cons, List.length_nil] at hl ⊢; omega) fun x hx => ?_
  have hm : x ∈ xs ++ ys ∨ x = w := by
    simp only [List.mem_append, List.mem_singleton] at hx ⊢
    rcases hx with (h | h) | h
    · exact .inl (.inl h)
    · exact .inr h
    · exact .inl (.inr h)
  rcases hm with hm | rfl
  · exact okD_mem h hm
  · exact hw
/-- things that are no pair of a ground and rules -/
def noBooks (gg : PyData) (rl : List PyData) : List PyData := [.none, .tuple [], .tuple [gg], .tuple [gg, .list rl], .list [gg, .tuple []], .tuple [gg, .none], .tuple [.tuple [], .tuple []], .tuple [gg, .tuple [], .tuple []]]
theorem noBooks_no (gg : PyData) (rl : List PyData) (h1 : okD gg = true) (h2 : okD (.tuple rl) = true) : ∀ w ∈ noBooks gg rl, okT w = true ∧ bookNo w = true := by
  have h2' : okD (.list rl) = true := h2
  have e1 : okT (.tuple [gg]) = true := by show (big 1 && (okD gg && true)) = true; rw [h1]; rfl
  have e2 : okT (.tuple [gg, .list rl]) = true := by show (big 2 && (okD gg && (okD (.list rl) && true))) = true; rw [h1, h2']; rfl
  have e3 : okT (.tuple [gg, .none]) = true := by show (big 2 && (okD gg && (true && true))) = true; rw [h1]; rfl
  have e4 : okT (.tuple [gg, .tuple [], .tuple []]) = true := by show (big 3 && (okD gg && ((big 0 && true) && ((big 0 && true) && true)))) = true; rw [h1]; rfl
  intro w hw
  simp only [noBooks, List.mem_cons, List.not_mem_nil, or_false] at hw
  rcases hw with rfl | rfl | rfl | rfl | rfl | rfl | rfl | rfl
  · exact ⟨rfl, rfl⟩
  · exact ⟨rfl, rfl⟩
  · exact ⟨e1, rfl⟩
  · exact ⟨e2, rfl⟩
  · exact ⟨rfl, rfl⟩
  · exact ⟨e3, rfl⟩
  · exact ⟨rfl, rfl⟩
  · exact ⟨e4, rfl⟩
/-- states with one thing wrong -/
theorem short_no {g : Gr} {s : Str} {ss : List Str} (h : stF g (s :: ss)) : isStateOf g (tS ss) = false := by
  have h1 := (stF_row h).1
  show (decide (((ss.map PyData.str).length : Int) = (g.length : Int)) && _) = false
  rw [decide_eq_false (by rw [List.length_map]; simp at h1; omega), Bool.false_and]
theorem quest_no {g : Gr} (hg : goodG g) {s : Str} {ss : List Str} (h : stF g (s :: ss)) : isStateOf g (tS ("?" :: ss)) = false := by
  cases g with
  | nil => exact h.elim
  | cons p g =>
    have hq : ∀ wa ∈ gWorths, isWord (.str "?") wa = false := by decide +kernel
    show (_ && ((stateRow (.str "?" :: ss.map .str) (p :: g)).all id)) = false
    show (_ && (isWord (.str "?") p.2 && _)) = false
    rw [hq _ (hg.2 p List.mem_cons_self)]
    simp
end Mn
end
section
set_option linter.all false
set_option autoImplicit false
set_option maxRecDepth 100000
namespace Mn
open PySem
variable {P : Nat → Option FDef} {sub : Nat → Nat → Option Bool}
def lvc0 : S := (.asg (.nm 6) (.call 143 (.cons (.var 1) (.cons (.var 2) .nil))))
def lvc1 : S := (.asg (.nm 7) (.pcall 154 (.cons (.var 2) (.cons (.var 6) .nil))))
def lvc2 : S := (.asg (.nm 8) (.blt .tup (.cons (.comp (.var 9) (.nm 9) (.rng1 (.blt .len (.cons (.idx (.var 3) (.cst (.int 1))) .nil))) (.not_ (.pcall 82 (.cons (.idx (.idx (.var 3) (.cst (.int 1))) (.var 9)) (.cons (.var 7) .nil)))) [9]) .nil)))
def lvc3 : S := (.if_ (.cmp .NotEq (.pcall 209 (.cons (.var 3) (.cons (.var 6) .nil))) (.var 8)) (.cons (.ret (.cst (.bool false))) .nil) .nil)
def lvb5 : Ss := (.cons lvc0 (.cons lvc1 (.cons lvc2 (.cons lvc3 .nil))))
def lvb4 : Ss := (.cons (.if_ (.cmp .IsNot (.pcall 282 (.cons (.var 2) (.cons (.var 4) .nil))) (.cst (.bool true))) (.cons (.ret (.cst (.bool false))) .nil) .nil) .nil)
def lvb12 : Ss := (.cons (.if_ (.cmp .IsNot (.pcall 282 (.cons (.var 2) (.cons (.var 13) .nil))) (.cst (.bool false))) (.cons (.ret (.cst (.bool false))) .nil) .nil) .nil)
def lvb14 : Ss := (.cons (.if_ (.or_ (.cmp .IsNot (.pcall 249 (.cons (.var 13) .nil)) (.cst (.bool false))) (.cmp .NotEq (.pcall 84 (.cons (.cst (.str "broken")) (.cons (.var 13) (.cons (.cst .none) .nil)))) (.lst (.cons (.cst (.str "book")) .nil)))) (.cons (.ret (.cst (.bool false))) .nil) .nil) .nil)
def lvb15 : Ss := (.cons (.if_ (.cmp .NotEq (.pcall 84 (.cons (.cst (.str "broken")) (.cons (.var 3) (.cons (.var 13) .nil)))) (.lst (.cons (.cst (.str "state")) .nil))) (.cons (.ret (.cst (.bool false))) .nil) .nil) .nil)
def lv0 : S := (.asgH 1 (.pcall 31 (.cons (.var 0) (.cons (.cst (.int 260)) .nil))))
def lv1 : S := (.asg (.nm 2) (.call 50 (.cons (.var 1) (.cons (.cst (.int 5)) .nil))))
def lv2 : S := (.asg (.nm 3) (.call 14 (.cons (.var 1) (.cons (.var 2) (.cons (.cst (.int 8)) (.cons (.cst (.bool true)) .nil))))))
def lv3 : S := (.if_ (.or_ (.cmp .IsNot (.pcall 249 (.cons (.var 3) .nil)) (.cst (.bool true))) (.cmp .IsNot (.pcall 249 (.cons (.tup (.cons (.var 2) (.cons (.tup .nil) .nil))) .nil)) (.cst (.bool true)))) (.cons (.ret (.cst (.bool false))) .nil) .nil)
def lv4 : S := (.for_ (.nm 4) (.of (.idx (.var 3) (.cst (.int 1)))) lvb4)
def lv5 : S := (.for_ (.nm 5) (.rng1 (.cst (.int 5))) lvb5)
def lv6 : S := (.asg (.nm 10) (.tup (.cons (.cst (.str "only")) (.cons (.idx (.idx (.var 2) (.cst (.int 0))) (.cst (.int 0))) (.cons (.tup .nil) .nil)))))
def lv7 : S := (.if_ (.or_ (.cmp .IsNot (.pcall 249 (.cons (.tup (.cons (.var 2) (.cons (.blt .tup (.cons (.comp (.var 10) (.nm 5) (.rng1 (.cst (.int 1000))) (.cst (.bool true)) [5]) .nil)) .nil))) .nil)) (.cst (.bool true))) (.cmp .IsNot (.pcall 282 (.cons (.var 2) (.cons (.var 10) .nil))) (.cst (.bool true)))) (.cons (.ret (.cst (.bool false))) .nil) .nil)
def lv8 : S := (.asg (.nm 11) (.call 103 (.cons (.var 1) (.cons (.bin .Add (.blt .len (.cons (.idx (.var 3) (.cst (.int 1))) .nil)) (.cst (.int 1))) .nil))))
def lv9 : S := (.asgO 12 (.comp (.tup (.cons (.var 2) (.cons (.bin .Add (.bin .Add (.slc false true (.idx (.var 3) (.cst (.int 1))) (.cst .none) (.var 11)) (.tup (.cons (.var 13) .nil))) (.slc true false (.idx (.var 3) (.cst (.int 1))) (.var 11) (.cst .none))) .nil))) (.nm 13) (.of (.pcall 174 (.cons (.var 2) .nil))) (.cst (.bool true)) [13]))
def lv10 : S := (.asgO 12 (.cat (.var 12) (.lst (.cons (.cst .none) (.cons (.tup .nil) (.cons (.tup (.cons (.var 2) .nil)) (.cons (.tup (.cons (.var 2) (.cons (.blt .lst (.cons (.idx (.var 3) (.cst (.int 1))) .nil)) .nil))) (.cons (.lst (.cons (.var 2) (.cons (.tup .nil) .nil))) (.cons (.tup (.cons (.var 2) (.cons (.cst .none) .nil))) (.cons (.tup (.cons (.tup .nil) (.cons (.tup .nil) .nil))) (.cons (.tup (.cons (.var 2) (.cons (.tup .nil) (.cons (.tup .nil) .nil)))) .nil)))))))))))
def lv11 : S := (.app 12 (.tup (.cons (.var 2) (.cons (.blt .tup (.cons (.comp (.var 10) (.nm 5) (.rng1 (.cst (.int 1001))) (.cst (.bool true)) [5]) .nil)) .nil))))
def lv12 : S := (.for_ (.nm 13) (.of (.pcall 174 (.cons (.var 2) .nil))) lvb12)
def lv13 : S := (.frz 12)
def lv14 : S := (.for_ (.nm 13) (.of (.var 12)) lvb14)
def lv15 : S := (.for_ (.nm 13) (.of (.lst (.cons (.cst .none) (.cons (.slc true false (.call 143 (.cons (.var 1) (.cons (.var 2) .nil))) (.cst (.int 1)) (.cst .none)) (.cons (.bin .Add (.tup (.cons (.cst (.str "?")) .nil)) (.slc true false (.call 143 (.cons (.var 1) (.cons (.var 2) .nil))) (.cst (.int 1)) (.cst .none))) .nil))))) lvb15)
def lv16 : S := (.ret (.and_ (.cmp .Eq (.pcall 84 (.cons (.cst (.str "rule")) (.cons (.cst .none) (.cons (.var 10) .nil)))) (.lst (.cons (.cst (.str "ground")) .nil))) (.cmp .Eq (.pcall 84 (.cons (.cst (.str "rule")) (.cons (.tup .nil) (.cons (.cst .none) .nil)))) (.lst (.cons (.cst (.str "ground")) .nil)))))
theorem lv_run (C : CallF) (x0 : PyData) (mh : MH) : runF C Fn.x_law_6 [.dat x0] mh = bodyEnd (evSs C (.cons lv0 (.cons lv1 (.cons lv2 (.cons lv3 (.cons lv4 (.cons lv5 (.cons lv6 (.cons lv7 (.cons lv8 (.cons lv9 (.cons lv10 (.cons lv11 (.cons lv12 (.cons lv13 (.cons lv14 (.cons lv15 (.cons lv16 .nil))))))))))))))))) [some (.dat x0), none, none, none, none, none, none, none, none, none, none, none, none, none] mh) := rfl

abbrev vE (sc gg bd : PyData) (x4 x5 x6 x7 x8 x10 x11 x12 x13 : Option RV) : MEnv := [some (.dat sc), some (.ref 0), some (.dat gg), some (.dat bd), x4, x5, x6, x7, x8, none, x10, x11, x12, x13]
section
variable {C : CallF} {sc gg bd sd td lf a on : PyData} {x4 x5 x6 x7 x8 x10 x11 x12 x13 : Option RV} {mh mh' : MH} {dl ud L rl : List PyData}
theorem v0 (e : C.call 31 [.dat sc, .dat (.int 260)] [] = .ok (.olst dl) []) : evS C lv0 [some (.dat sc), none, none, none, none, none, none, none, none, none, none, none, none, none] [] = .next [some (.dat sc), some (.ref 0), none, none, none, none, none, none, none, none, none, none, none, none] [.lst dl] := by
  simp [lv0, RV.isDat, e, freshV, isFresh, isCall, setN, toCell]
theorem v1 (e : C.call 50 [.ref 0, .dat (.int 5)] mh = .ok (.dat gg) mh') : evS C lv1 [some (.dat sc), some (.ref 0), none, none, none, none, none, none, none, none, none, none, none, none] mh = .next [some (.dat sc), some (.ref 0), some (.dat gg), none, none, none, none, none, none, none, none, none, none, none] mh' := by
  simp [lv1, RV.passes, e, bindT]
theorem v2 (e : C.call 14 [.ref 0, .dat gg, .dat (.int 8), .dat (.bool true)] mh = .ok (.dat bd) mh') : evS C lv2 [some (.dat sc), some (.ref 0), some (.dat gg), none, none, none, none, none, none, none, none, none, none, none] mh = .next (vE sc gg bd none none none none none none none none none) mh' := by
  simp [lv2, RV.passes, e, bindT]
theorem v3 (c1 : ∀ mh, C.call 249 [.dat bd] mh = .ok (.dat (.bool true)) mh) (c2 : ∀ mh, C.call 249 [.dat (.tuple [gg, .tuple []])] mh = .ok (.dat (.bool true)) mh) : evS C lv3 (vE sc gg bd none none none none none none none none none) mh = .next (vE sc gg bd none none none none none none none none none) mh := by
  simp [lv3, RV.isDat, c1, c2, isNB, big]
theorem vb4 {w : PyData} (c : ∀ mh, C.call 282 [.dat gg, .dat w] mh = .ok (.dat (.bool true)) mh) : evSs C lvb4 (vE sc gg bd (some (.dat w)) none none none none none none none none) mh = .next (vE sc gg bd (some (.dat w)) none none none none none none none none) mh := by
  simp [lvb4, RV.isDat, c, isNB]
theorem v4 (i1 : idxD bd (.int 1) = some (.tuple rl)) (h : ∀ w ∈ rl, ∀ mh, C.call 282 [.dat gg, .dat w] mh = .ok (.dat (.bool true)) mh) : ∃ x4, evS C lv4 (vE sc gg bd none none none none none none none none none) mh = .next (vE sc gg bd x4 none none none none none none none none) mh := by
  obtain ⟨c', e⟩ := loop_same (C := C) (i := 4) (body := lvb4) (mh := mh) (fun x4 => vE sc gg bd x4 none none none none none none none none) (fun x c => rfl) rl (fun w hw => vb4 (h w hw)) none
  refine ⟨c', ?_⟩
  rw [lv4, evS_for]
  have hi : evItF C (.of (.idx (.var 3) (.cst (.int 1)))) (vE sc gg bd none none none none none none none none none) mh = .ok rl mh := by
    have hs : itemsD (.tuple rl) = some rl := rfl
    simp [evItF, i1, hs]
  rw [hi]
  exact e
theorem vb5 (c1 : C.call 143 [.ref 0, .dat gg] mh = .ok (.dat sd) mh') (c2 : ∀ mh, C.call 154 [.dat gg, .dat sd] mh = .ok (.dat td) mh)
    (c3 : ∀ env : MEnv, env[3]? = some (some (.dat bd)) → env[7]? = some (some (.dat td)) → 9 < env.length → ∀ mh, (evP C (.comp (.var 9) (.nm 9) (.rng1 (.blt .len (.cons (.idx (.var 3) (.cst (.int 1))) .nil))) (.not_ (.pcall 82 (.cons (.idx (.idx (.var 3) (.cst (.int 1))) (.var 9)) (.cons (.var 7) .nil)))) [9])).1 env mh = .ok (.dat (.list ud)) mh)
    (c4 : ∀ mh, C.call 209 [.dat bd, .dat sd] mh = .ok (.dat (.tuple ud)) mh) (c5 : cmpD .NotEq (.tuple ud) (.tuple ud) = some false) :
    evSs C lvb5 (vE sc gg bd x4 x5 x6 x7 x8 none none none none) mh = .next (vE sc gg bd x4 x5 (some (.dat sd)) (some (.dat td)) (some (.dat (.tuple ud))) none none none none) mh' := by
  refine stepN (env' := vE sc gg bd x4 x5 (some (.dat sd)) x7 x8 none none none none) (mh' := mh') (by simp [lvc0, RV.passes, c1, bindT]) ?_
  refine stepN (env' := vE sc gg bd x4 x5 (some (.dat sd)) (some (.dat td)) x8 none none none none) (mh' := mh') (by simp [lvc1, RV.isDat, c2, bindT]) ?_
  have c3 := c3 (vE sc gg bd x4 x5 (some (.dat sd)) (some (.dat td)) x8 none none none none) rfl rfl (by simp) mh'
  refine stepN (env' := vE sc gg bd x4 x5 (some (.dat sd)) (some (.dat td)) (some (.dat (.tuple ud))) none none none none) (mh' := mh') (by simp [lvc2, c3, bltD, un, tupD, bindT]) ?_
  refine stepN (env' := vE sc gg bd x4 x5 (some (.dat sd)) (some (.dat td)) (some (.dat (.tuple ud))) none none none none) (mh' := mh') (by simp [lvc3, RV.isDat, c4, c5]) rfl
theorem v5 (h : ∀ is : List Int, ∃ (sd td : PyData) (ud : List PyData) (js : List Int), C.call 143 [.ref 0, .dat gg] [.lst (iL is)] = .ok (.dat sd) [.lst (iL js)] ∧ (∀ mh, C.call 154 [.dat gg, .dat sd] mh = .ok (.dat td) mh) ∧
    (∀ env : MEnv, env[3]? = some (some (.dat bd)) → env[7]? = some (some (.dat td)) → 9 < env.length → ∀ mh, (evP C (.comp (.var 9) (.nm 9) (.rng1 (.blt .len (.cons (.idx (.var 3) (.cst (.int 1))) .nil))) (.not_ (.pcall 82 (.cons (.idx (.idx (.var 3) (.cst (.int 1))) (.var 9)) (.cons (.var 7) .nil)))) [9])).1 env mh = .ok (.dat (.list ud)) mh) ∧
    (∀ mh, C.call 209 [.dat bd, .dat sd] mh = .ok (.dat (.tuple ud)) mh) ∧ cmpD .NotEq (.tuple ud) (.tuple ud) = some false) (x4 : Option RV) (is : List Int) :
    ∃ x5 x6 x7 x8 js, evS C lv5 (vE sc gg bd x4 none none none none none none none none) [.lst (iL is)] = .next (vE sc gg bd x4 x5 x6 x7 x8 none none none none) [.lst (iL js)] := by
  have key : ∀ n : Nat, ∃ x5 x6 x7 x8 js, forB C (.nm 5) lvb5 (rngD 0 n) (vE sc gg bd x4 none none none none none none none none) [.lst (iL is)] = .next (vE sc gg bd x4 x5 x6 x7 x8 none none none none) [.lst (iL js)] := fun n => by
    obtain ⟨env', mh', e, x5, x6, x7, x8, js, rfl, rfl⟩ := forB_idx (C := C) (t := .nm 5) (body := lvb5) (rngD 0 n) (fun _ env mh => ∃ x5 x6 x7 x8 js, env = vE sc gg bd x4 x5 x6 x7 x8 none none none none ∧ mh = [.lst (iL js)]) (vE sc gg bd x4 none none none none none none none none) [.lst (iL is)] ⟨none, none, none, none, is, rfl, rfl⟩ (by
      rintro i x hx env mh ⟨x5, x6, x7, x8, js, rfl, rfl⟩
      obtain ⟨sd, td, ud, js2, h1, h2, h3, h4, h5⟩ := h js
      exact ⟨vE sc gg bd x4 (some (.dat x)) x6 x7 x8 none none none none, rfl, _, _, vb5 h1 h2 h3 h4 h5, _, _, _, _, js2, rfl, rfl⟩)
    exact ⟨x5, x6, x7, x8, js, e⟩
  obtain ⟨x5, x6, x7, x8, js, e⟩ := key 5
  exact ⟨x5, x6, x7, x8, js, by rw [lv5, evS_for]; exact e⟩
theorem v6 (i0 : idxD gg (.int 0) = some lf) (p0 : idxD lf (.int 0) = some a) : evS C lv6 (vE sc gg bd x4 x5 x6 x7 x8 none none none none) mh = .next (vE sc gg bd x4 x5 x6 x7 x8 (some (.dat (.tuple [.str "only", a, .tuple []]))) none none none) mh := by
  simp [lv6, i0, p0, bindT, big]
theorem v7 {on : PyData} {rr : List PyData} (hc : ∀ mh, (evP C (.comp (.var 10) (.nm 5) (.rng1 (.cst (.int 1000))) (.cst (.bool true)) [5])).1 (vE sc gg bd x4 x5 x6 x7 x8 (some (.dat on)) none none none) mh = .ok (.dat (.list rr)) mh)
    (c1 : ∀ mh, C.call 249 [.dat (.tuple [gg, .tuple rr])] mh = .ok (.dat (.bool true)) mh) (c2 : ∀ mh, C.call 282 [.dat gg, .dat on] mh = .ok (.dat (.bool true)) mh) :
    evS C lv7 (vE sc gg bd x4 x5 x6 x7 x8 (some (.dat on)) none none none) mh = .next (vE sc gg bd x4 x5 x6 x7 x8 (some (.dat on)) none none none) mh := by
  simp [lv7, RV.isDat, hc, c1, c2, bltD, un, tupD, isNB, big]
theorem v8 {n : Nat} {j : Int} (i1 : idxD bd (.int 1) = some (.tuple rl)) (hl : lenD (.tuple rl) = some (.int n)) (c : C.call 103 [.ref 0, .dat (.int ((n : Int) + 1))] mh = .ok (.dat (.int j)) mh') :
    evS C lv8 (vE sc gg bd x4 x5 x6 x7 x8 x10 none none none) mh = .next (vE sc gg bd x4 x5 x6 x7 x8 x10 (some (.dat (.int j))) none none) mh' := by
  have ad : binD .Add (.int (n : Int)) (.int 1) = some (.int ((n : Int) + 1)) := rfl
  generalize (n : Int) + 1 = m at c ad
  generalize (n : Int) = n' at hl ad
  generalize PyData.tuple rl = rd at i1 hl
  simp [lv8, i1, bltD, un, hl, ad, RV.passes, c, bindT]
def badRow (gg : PyData) (xs ys : List PyData) (w : PyData) : PyData := .tuple [gg, .tuple (xs ++ [w] ++ ys)]
theorem v9 {n : Nat} {ws : List PyData} (i1 : idxD bd (.int 1) = some (.tuple rl)) (hn : n ≤ rl.length) (hr : rl.length ≤ 100) (hw : ws.length ≤ 100) (c : ∀ mh, C.call 174 [.dat gg] mh = .ok (.dat (.list ws)) mh) :
    evS C lv9 (vE sc gg bd x4 x5 x6 x7 x8 x10 (some (.dat (.int n))) none none) mh = .next (vE sc gg bd x4 x5 x6 x7 x8 x10 (some (.dat (.int n))) (some (.olst (ws.map (badRow gg (rl.take n) (rl.drop n))))) none) mh := by
  have s1 : sliD (.tuple rl) none (some (n : Int)) = some (.tuple (rl.take n)) := by show some (PyData.tuple (cutD _ _ _)) = _; rw [cutTo _ _ hn]
  have s2 : sliD (.tuple rl) (some (n : Int)) none = some (.tuple (rl.drop n)) := by show some (PyData.tuple (cutD _ _ _)) = _; rw [cutFrom _ _ hn]
  have a1 : ∀ x, binD .Add (.tuple (rl.take n)) (.tuple [x]) = some (.tuple (rl.take n ++ [x])) := fun x => addT _ _ (decide_eq_true (by simp; omega))
  have a2 : ∀ x, binD .Add (.tuple (rl.take n ++ [x])) (.tuple (rl.drop n)) = some (.tuple (rl.take n ++ [x] ++ rl.drop n)) := fun x => addT _ _ (decide_eq_true (by simp; omega))
  have hs : itemsD (.list ws) = some ws := rfl
  have e := ev_map (C := C) (elt := (.tup (.cons (.var 2) (.cons (.bin .Add (.bin .Add (.slc false true (.idx (.var 3) (.cst (.int 1))) (.cst .none) (.var 11)) (.tup (.cons (.var 13) .nil))) (.slc true false (.idx (.var 3) (.cst (.int 1))) (.var 11) (.cst .none))) .nil)))) (tg := .nm 13) (it := .of (.pcall 174 (.cons (.var 2) .nil))) (c := .cst (.bool true)) (own := [13]) (env := vE sc gg bd x4 x5 x6 x7 x8 x10 (some (.dat (.int n))) none none) (mh := mh) (mh1 := mh) (xs := ws) (f := badRow gg (rl.take n) (rl.drop n))
    (by simp [evIt, RV.isDat, c, hs]) (decide_eq_true (by omega)) (fun x hx => by
      have a1 := a1 x
      have a2 := a2 x
      unfold badRow
      generalize rl.take n ++ [x] ++ rl.drop n = r3 at a2 ⊢
      generalize rl.take n ++ [x] = r2 at a1 a2
      generalize rl.take n = r0 at s1 a1
      generalize rl.drop n = r1 at s2 a2
      generalize (n : Int) = n' at s1 s2
      simp [cmpTurn, bindT, wipeM, i1, partO, s1, s2, a1, a2, big])
  rw [lv9]
  generalize ws.map (badRow gg (rl.take n) (rl.drop n)) = L at e ⊢
  simp [e, freshV, isFresh, setN]
theorem v10 (i1 : idxD bd (.int 1) = some (.tuple rl)) (hL : L.length ≤ 1000) : evS C lv10 (vE sc gg bd x4 x5 x6 x7 x8 x10 x11 (some (.olst L)) none) mh = .next (vE sc gg bd x4 x5 x6 x7 x8 x10 x11 (some (.olst (L ++ noBooks gg rl))) none) mh := by
  have h : L.length + 8 ≤ 16777216 := by omega
  have l : lstD (.tuple rl) = some (.list rl) := rfl
  simp [lv10, i1, bltD, un, l, big, freshV, isFresh, setN, noBooks, h]
theorem v11 {on : PyData} {rr : List PyData} (hL : L.length ≤ 2000) (hc : ∀ mh, (evP C (.comp (.var 10) (.nm 5) (.rng1 (.cst (.int 1001))) (.cst (.bool true)) [5])).1 (vE sc gg bd x4 x5 x6 x7 x8 (some (.dat on)) x11 (some (.olst L)) none) mh = .ok (.dat (.list rr)) mh) :
    evS C lv11 (vE sc gg bd x4 x5 x6 x7 x8 (some (.dat on)) x11 (some (.olst L)) none) mh = .next (vE sc gg bd x4 x5 x6 x7 x8 (some (.dat on)) x11 (some (.olst (L ++ [.tuple [gg, .tuple rr]]))) none) mh := by
  have h : L.length + 1 ≤ 16777216 := by omega
  have h2 : L.length ≤ 16777215 := by omega
  simp [lv11, hc, bltD, un, tupD, lstAt, upR, appD, big, h, h2]
theorem vb12 {w : PyData} (c : ∀ mh, C.call 282 [.dat gg, .dat w] mh = .ok (.dat (.bool false)) mh) : evSs C lvb12 (vE sc gg bd x4 x5 x6 x7 x8 x10 x11 x12 (some (.dat w))) mh = .next (vE sc gg bd x4 x5 x6 x7 x8 x10 x11 x12 (some (.dat w))) mh := by
  simp [lvb12, RV.isDat, c, isNB]
theorem v12 {ws : List PyData} (c : ∀ mh, C.call 174 [.dat gg] mh = .ok (.dat (.list ws)) mh) (h : ∀ w ∈ ws, ∀ mh, C.call 282 [.dat gg, .dat w] mh = .ok (.dat (.bool false)) mh) : ∃ x13, evS C lv12 (vE sc gg bd x4 x5 x6 x7 x8 x10 x11 x12 none) mh = .next (vE sc gg bd x4 x5 x6 x7 x8 x10 x11 x12 x13) mh := by
  obtain ⟨c', e⟩ := loop_same (C := C) (i := 13) (body := lvb12) (mh := mh) (fun x13 => vE sc gg bd x4 x5 x6 x7 x8 x10 x11 x12 x13) (fun x c => rfl) ws (fun w hw => vb12 (h w hw)) none
  refine ⟨c', ?_⟩
  rw [lv12, evS_for]
  have hi : evItF C (.of (.pcall 174 (.cons (.var 2) .nil))) (vE sc gg bd x4 x5 x6 x7 x8 x10 x11 x12 none) mh = .ok ws mh := by
    have hs : itemsD (.list ws) = some ws := rfl
    simp [evItF, RV.isDat, c, hs]
  rw [hi]
  exact e
theorem v13 : evS C lv13 (vE sc gg bd x4 x5 x6 x7 x8 x10 x11 (some (.olst L)) x13) mh = .next (vE sc gg bd x4 x5 x6 x7 x8 x10 x11 (some (.dat (.list L))) x13) mh := by
  rfl
theorem vb14 {w : PyData} (c : ∀ mh, C.call 249 [.dat w] mh = .ok (.dat (.bool false)) mh) (c2 : ∀ mh, C.call 84 [.dat (.str "broken"), .dat w, .dat .none] mh = .ok (.dat (.list [.str "book"])) mh) : evSs C lvb14 (vE sc gg bd x4 x5 x6 x7 x8 x10 x11 x12 (some (.dat w))) mh = .next (vE sc gg bd x4 x5 x6 x7 x8 x10 x11 x12 (some (.dat w))) mh := by
  have e : cmpD .NotEq (.list [.str ("book" : Str)]) (.list [.str ("book" : Str)]) = some false := by decide +kernel
  simp [lvb14, RV.isDat, c, c2, isNB, big, e]
theorem v14 (h : ∀ w ∈ L, (∀ mh, C.call 249 [.dat w] mh = .ok (.dat (.bool false)) mh) ∧ (∀ mh, C.call 84 [.dat (.str "broken"), .dat w, .dat .none] mh = .ok (.dat (.list [.str "book"])) mh)) : ∃ x13', evS C lv14 (vE sc gg bd x4 x5 x6 x7 x8 x10 x11 (some (.dat (.list L))) x13) mh = .next (vE sc gg bd x4 x5 x6 x7 x8 x10 x11 (some (.dat (.list L))) x13') mh := by
  obtain ⟨c', e⟩ := loop_same (C := C) (i := 13) (body := lvb14) (mh := mh) (fun x13 => vE sc gg bd x4 x5 x6 x7 x8 x10 x11 (some (.dat (.list L))) x13) (fun x c => rfl) L (fun w hw => vb14 (h w hw).1 (h w hw).2) x13
  refine ⟨c', ?_⟩
  rw [lv14, evS_for]
  have hi : evItF C (.of (.var 12)) (vE sc gg bd x4 x5 x6 x7 x8 x10 x11 (some (.dat (.list L))) x13) mh = .ok L mh := by
    have hs : itemsD (.list L) = some L := rfl
    simp [evItF, hs]
  rw [hi]
  exact e
theorem vb15 {w : PyData} (c2 : ∀ mh, C.call 84 [.dat (.str "broken"), .dat bd, .dat w] mh = .ok (.dat (.list [.str "state"])) mh) : evSs C lvb15 (vE sc gg bd x4 x5 x6 x7 x8 x10 x11 x12 (some (.dat w))) mh = .next (vE sc gg bd x4 x5 x6 x7 x8 x10 x11 x12 (some (.dat w))) mh := by
  have e : cmpD .NotEq (.list [.str ("state" : Str)]) (.list [.str ("state" : Str)]) = some false := by decide +kernel
  simp [lvb15, RV.isDat, c2, big, e]
theorem v15 {mh1 mh2 : MH} {s s' : PyData} {ss ss' : List PyData} (hl : ss'.length ≤ 100) (e1 : C.call 143 [.ref 0, .dat gg] mh = .ok (.dat (.tuple (s :: ss))) mh1) (e2 : C.call 143 [.ref 0, .dat gg] mh1 = .ok (.dat (.tuple (s' :: ss'))) mh2) (h : ∀ w ∈ [.none, .tuple ss, .tuple (.str "?" :: ss')], ∀ mh, C.call 84 [.dat (.str "broken"), .dat bd, .dat w] mh = .ok (.dat (.list [.str "state"])) mh) :
    ∃ x13', evS C lv15 (vE sc gg bd x4 x5 x6 x7 x8 x10 x11 x12 x13) mh = .next (vE sc gg bd x4 x5 x6 x7 x8 x10 x11 x12 x13') mh2 := by
  obtain ⟨c', e⟩ := loop_same (C := C) (i := 13) (body := lvb15) (mh := mh2) (fun x13 => vE sc gg bd x4 x5 x6 x7 x8 x10 x11 x12 x13) (fun x c => rfl) [.none, .tuple ss, .tuple (.str "?" :: ss')] (fun w hw => vb15 (h w hw)) x13
  refine ⟨c', ?_⟩
  rw [lv15, evS_for]
  have hi : evItF C (.of (.lst (.cons (.cst .none) (.cons (.slc true false (.call 143 (.cons (.var 1) (.cons (.var 2) .nil))) (.cst (.int 1)) (.cst .none)) (.cons (.bin .Add (.tup (.cons (.cst (.str "?")) .nil)) (.slc true false (.call 143 (.cons (.var 1) (.cons (.var 2) .nil))) (.cst (.int 1)) (.cst .none))) .nil))))) (vE sc gg bd x4 x5 x6 x7 x8 x10 x11 x12 x13) mh = .ok [.none, .tuple ss, .tuple (.str "?" :: ss')] mh2 := by
    have hs : ∀ L, itemsD (.list L) = some L := fun _ => rfl
    have c1 : ∀ (x : PyData) xs, sliD (.tuple (x :: xs)) (some 1) none = some (.tuple xs) := fun x xs => by show some (PyData.tuple (cutD _ _ _)) = _; rw [cutT]
    have a1 : binD .Add (.tuple [.str "?"]) (.tuple ss') = some (.tuple (.str "?" :: ss')) := addT _ _ (decide_eq_true (by simp; omega))
    simp [evItF, RV.passes, e1, e2, partO, c1, a1, big, hs]
  rw [hi]
  exact e
theorem v16 {on : PyData} (c1 : ∀ mh, C.call 84 [.dat (.str "rule"), .dat .none, .dat on] mh = .ok (.dat (.list [.str "ground"])) mh) (c2 : ∀ mh, C.call 84 [.dat (.str "rule"), .dat (.tuple []), .dat .none] mh = .ok (.dat (.list [.str "ground"])) mh) :
    evS C lv16 (vE sc gg bd x4 x5 x6 x7 x8 (some (.dat on)) x11 x12 x13) mh = .ret (.dat (.bool true)) mh := by
  have e : cmpD .Eq (.list [.str ("ground" : Str)]) (.list [.str ("ground" : Str)]) = some true := by decide +kernel
  simp [lv16, RV.isDat, c1, c2, big, e]
end
end Mn
end
section
set_option linter.all false
set_option autoImplicit false
set_option maxRecDepth 100000
namespace Mn
open PySem
variable {P : Nat → Option FDef} {sub : Nat → Nat → Option Bool}
structure HasK05 (P : Nat → Option FDef) : Prop extends HasBroken P where
  drw : P 31 = some Fn.x_law_draws
  nxt : P 103 = some Fn.x_law_next
  gnd : P 50 = some Fn.x_law_ground
  sta : P 143 = some Fn.x_law_state
  lbk : P 14 = some Fn.x_law_book
  lrl : P 131 = some Fn.x_law_rule
  lpo : P 116 = some Fn.x_law_pairs_of
  ltd : P 154 = some Fn.x_law_told
  lkp : P 82 = some Fn.x_law_keeps
  wrg : P 174 = some Fn.x_law_wrongs
  knd : P 84 = some Fn.x_law_kind_4
  law : P 303 = some Fn.x_law_6
theorem rules_in {g : Gr} : ∀ {ds : List PyData}, (∀ d ∈ ds, isRuleOf g d = true) → ∃ rs : List Rule, ds = rs.map ruleD ∧ ∀ r ∈ rs, ruleIn g r
  | [], _ => ⟨[], rfl, fun r hr => by cases hr⟩
  | d :: ds, h => by
    obtain ⟨r, rfl, hr⟩ := rule_shape (h d List.mem_cons_self)
    obtain ⟨rs, rfl, hrs⟩ := rules_in fun d hd => h d (List.mem_cons_of_mem _ hd)
    refine ⟨r :: rs, rfl, fun x hx => ?_⟩
    rcases List.mem_cons.mp hx with rfl | hx
    · exact hr
    · exact hrs x hx
theorem plain_ints : ∀ is : List Nat, PyData.plainAll (is.map fun i : Nat => PyData.int (i : Int)) = true
  | [] => rfl
  | i :: is => by
    show (PyData.plain (.int (i : Int)) && PyData.plainAll _) = true
    rw [plain_ints is]; rfl
theorem depth_ints : ∀ is : List Nat, PyData.depthAll (is.map fun i : Nat => PyData.int (i : Int)) ≤ 1
  | [] => Nat.zero_le _
  | i :: is => by
    show max (PyData.depth (.int (i : Int))) (PyData.depthAll _) ≤ 1
    have e : PyData.depth (.int (i : Int)) ≤ 1 := by rw [PyData.depth]; omega
    exact Nat.max_le.mpr ⟨e, depth_ints is⟩
theorem due_same (t : Tl) (rs : List Rule) : cmpD .NotEq (.tuple (unkeptD t rs)) (.tuple (unkeptD t rs)) = some false := by
  have h1 := plain_ints (unkept t rs)
  have h2 := depth_ints (unkept t rs)
  unfold unkeptD
  generalize (unkept t rs).map (fun i : Nat => PyData.int (i : Int)) = xs at h1 h2 ⊢
  have h3 : PyData.plain (.tuple xs) = true := by rw [PyData.plain]; exact h1
  have h4 : depOk (.tuple xs) = true := by
    unfold depOk
    rw [h3, Bool.true_and]
    refine decide_eq_true ?_
    rw [PyData.depth]; omega
  show (eqD (.tuple xs) (.tuple xs)).map not = _
  unfold eqD
  rw [h4, PySem.SeqAt.eqv_refl_plain _ h3]
  rfl
theorem c_law05 (hP : HasK05 P) (s11_5 : sub 11 5 = some true) (s11_15 : sub 11 15 = some false) (s11_11 : sub 11 11 = some true) (s11_29 : sub 11 29 = some false)
    (s29_5 : sub 29 5 = some true) (s29_15 : sub 29 15 = some false) (s29_11 : sub 29 11 = some false) (s29_29 : sub 29 29 = some true)
    (s15_5 : sub 15 5 = some true) (s15_15 : sub 15 15 = some true) (s15_11 : sub 15 11 = some false) (s15_29 : sub 15 29 = some false) (k : Nat) (ns : List Int) (hn : ns.length ≤ 63) :
    ∃ mh, (CF P sub (k + 8)).call 303 [.dat (scriptD ns)] [] = .ok (.dat (.bool true)) mh := by
  have hB : HasBook P := hP.toHasBook
  obtain ⟨ds, e1⟩ := c_draws (sub := sub) hP.drw (k + 6) ns hn 260 (by omega)
  obtain ⟨g, d2, e2, hg, hl1, hl5⟩ := c_ground (sub := sub) hP.gnd hP.nxt (k + 5) 5 (by omega) ds
  have hl : g.length ≤ 5 := by omega
  have hr : RightG g := ⟨goodG_ok hg hl, goodG_ground hg hl1 hl⟩
  have hnd := ground_nodup hr.gr
  obtain ⟨rs0, d3, e3, hrl, hgood⟩ := c_lbook (sub := sub) hP.lbk hP.lrl hP.lpo hP.nxt (k + 3) 8 (by omega) g hg hl1 hl d2
  have hrule : ∀ d ∈ rs0.map ruleD, isRuleOf g d = true := fun d hd => by
    obtain ⟨r, hr', rfl⟩ := List.mem_map.mp hd
    exact (hgood r hr').1
  have hokr : ∀ d ∈ rs0.map ruleD, okD d = true := fun d hd => by
    obtain ⟨r, hr', rfl⟩ := List.mem_map.mp hd
    exact (hgood r hr').2
  obtain ⟨rs, ers, hin⟩ := rules_in hrule
  have hrl : rs.length ≤ 8 := by
    have := congrArg List.length ers
    rw [List.length_map, List.length_map] at this
    omega
  rw [ers] at e3 hrule hokr
  have hrok : okD (.tuple (rs.map ruleD)) = true := okD_tup2 (by rw [List.length_map]; omega) hokr
  have hbok : bookOk g (rs.map ruleD) = true := by
    unfold bookOk
    rw [List.all_eq_true.mpr hrule, Bool.and_true]
    exact decide_eq_true (by rw [List.length_map]; omega)
  obtain ⟨p, g', rfl⟩ : ∃ p g', g = p :: g' := by
    cases g with
    | nil => simp at hl1
    | cons p g' => exact ⟨p, g', rfl⟩
  have hp := hg.2 p List.mem_cons_self
  have hor := only_rule p g' hp
  have hoo : okD (onlyD p.1) = true := only_okD _ (leaf_okD hr.ok (p := p) List.mem_cons_self).1
  have hstp : ∀ is : List Int, ∃ ss js, (CF P sub (k + 7)).call 143 [.ref 0, .dat (gD (p :: g'))] [.lst (iL is)] = .ok (.dat (tS ss)) [.lst (iL js)] ∧ stF (p :: g') ss := fun is => c_state (sub := sub) hP.sta hP.nxt (k + 5) (p :: g') (goodG_ne hg) (decide_eq_true (by omega)) is
  have hst : ∀ ss : List Str, stF (p :: g') ss → ∀ s ∈ ss, big s.length = true := fun ss h => stF_okD hg h
  have c1 : ∀ mh, (CF P sub (k + 7)).call 249 [.dat (bookD (p :: g') (rs.map ruleD))] mh = .ok (.dat (.bool true)) mh := fun mh => by rw [← hbok]; exact c_book (sub := sub) hB (k + 3) _ hr _ hrok mh
  have c2 : ∀ mh, (CF P sub (k + 7)).call 249 [.dat (.tuple [gD (p :: g'), .tuple []])] mh = .ok (.dat (.bool true)) mh := fun mh => c_book (sub := sub) hB (k + 3) _ hr [] rfl mh
  have c3 : ∀ w ∈ rs.map ruleD, ∀ mh, (CF P sub (k + 7)).call 282 [.dat (gD (p :: g')), .dat w] mh = .ok (.dat (.bool true)) mh := fun w hw mh => by rw [← hrule w hw]; exact c_rule (sub := sub) hB (k + 2) _ hr w mh (hokr w hw)
  have c4 : ∀ mh, (CF P sub (k + 7)).call 282 [.dat (gD (p :: g')), .dat (onlyD p.1)] mh = .ok (.dat (.bool true)) mh := fun mh => by rw [← hor]; exact c_rule (sub := sub) hB (k + 2) _ hr _ mh hoo
  have c5 : ∀ mh, (CF P sub (k + 7)).call 249 [.dat (.tuple [gD (p :: g'), .tuple (List.replicate 1000 (onlyD p.1))])] mh = .ok (.dat (.bool true)) mh := fun mh => by
    have h : bookOk (p :: g') (List.replicate 1000 (onlyD p.1)) = true := rep_book _ _ _ hor
    rw [← h]; exact c_book (sub := sub) hB (k + 3) _ hr _ (rep_okD _ (by omega) _ hoo) mh
  have cw : ∀ mh, (CF P sub (k + 7)).call 174 [.dat (gD (p :: g'))] mh = .ok (.dat (.list (wrongsR (p :: g')))) mh := fun mh => c_wrongsR (sub := sub) hP.wrg (k + 6) _ hg hl1 hl mh
  have hwno := wrongsR_no _ hg hl1 hl
  have hwl := wrongsR_len (p :: g')
  have c6 : ∀ w ∈ wrongsR (p :: g'), ∀ mh, (CF P sub (k + 7)).call 282 [.dat (gD (p :: g')), .dat w] mh = .ok (.dat (.bool false)) mh := fun w hw mh => by rw [← (hwno w hw).1]; exact c_rule (sub := sub) hB (k + 2) _ hr w mh (hwno w hw).2
  have nb : ∀ n, n ≤ (rs.map ruleD).length → ∀ w ∈ (wrongsR (p :: g')).map (badRow (gD (p :: g')) ((rs.map ruleD).take n) ((rs.map ruleD).drop n)) ++ noBooks (gD (p :: g')) (rs.map ruleD) ++ [.tuple [gD (p :: g'), .tuple (List.replicate 1001 (onlyD p.1))]], ∀ k mh, (CF P sub (k + 4)).call 249 [.dat w] mh = .ok (.dat (.bool false)) mh := fun n hn w hw k mh => by
    rcases List.mem_append.mp hw with hw | hw
    · rcases List.mem_append.mp hw with hw | hw
      · obtain ⟨x, hx, rfl⟩ := List.mem_map.mp hw
        obtain ⟨x1, x2⟩ := hwno x hx
        have h : bookOk (p :: g') ((rs.map ruleD).take n ++ [x] ++ (rs.map ruleD).drop n) = false := book_in x1
        rw [← h]
        exact c_book (sub := sub) hB k _ hr _ (okD_in (n := n) (by rw [List.take_append_drop]; exact hrok) (by rw [List.take_append_drop, List.length_map]; omega) x2) mh
      · obtain ⟨x1, x2⟩ := noBooks_no _ _ hr.ok hrok w hw
        exact c_book_no (sub := sub) hB k w x1 x2 mh
    · rw [List.mem_singleton.mp hw]
      have h : bookOk (p :: g') (List.replicate 1001 (onlyD p.1)) = false := rep_book _ _ _ hor
      rw [← h]
      exact c_book (sub := sub) hB k _ hr _ (rep_okD _ (by omega) _ hoo) mh
  have nk : ∀ w x : PyData, (∀ k mh, (CF P sub (k + 4)).call 249 [.dat w] mh = .ok (.dat (.bool false)) mh) → ∀ mh, (CF P sub (k + 7)).call 84 [.dat (.str "broken"), .dat w, .dat x] mh = .ok (.dat (.list [.str "book"])) mh := fun w x h mh =>
    c_kind_broken (sub := sub) hP.knd (k + 6) w x 11 (fun mh => c_broken_nobook (sub := sub) hP.toHasBroken (k + 4) w x (fun mh => h k mh) mh) false true false s11_5 s11_15 s11_11 s11_29 mh
  have ns_ : ∀ x : PyData, isStateOf (p :: g') x = false → okT x = true → ∀ mh, (CF P sub (k + 7)).call 84 [.dat (.str "broken"), .dat (bookD (p :: g') (rs.map ruleD)), .dat x] mh = .ok (.dat (.list [.str "state"])) mh := fun x h1 h2 mh =>
    c_kind_broken (sub := sub) hP.knd (k + 6) _ x 29 (fun mh => c_broken_nostate (sub := sub) hP.toHasBroken k _ hr _ hrok hbok x h1 h2 mh) false false true s29_5 s29_15 s29_11 s29_29 mh
  have ng : ∀ w d : PyData, okD w = true → isGround w = false → ∀ mh, (CF P sub (k + 7)).call 84 [.dat (.str "rule"), .dat w, .dat d] mh = .ok (.dat (.list [.str "ground"])) mh := fun w d h1 h2 mh =>
    c_kind_rule (sub := sub) hP.knd (k + 6) w d 15 (fun mh => c_rule_no (sub := sub) hB (k + 1) w d h1 h2 mh) true false false s15_5 s15_15 s15_11 s15_29 mh
  have i1 : idxD (bookD (p :: g') (rs.map ruleD)) (.int 1) = some (.tuple (rs.map ruleD)) := rfl
  have i0 : idxD (gD (p :: g')) (.int 0) = some (leafD p) := by
    show atD ((p :: g').map leafD) ((0 : Nat) : Int) = _
    rw [atD_nat]; rfl
  have p0 : idxD (leafD p) (.int 0) = some (.str p.1) := rfl
  obtain ⟨x4, r4⟩ := v4 (C := CF P sub (k + 7)) (sc := scriptD ns) (mh := [.lst (iL d3)]) i1 c3
  obtain ⟨x5, x6, x7, x8, d4, r5⟩ := v5 (C := CF P sub (k + 7)) (sc := scriptD ns) (gg := gD (p :: g')) (bd := bookD (p :: g') (rs.map ruleD)) (fun is => by
    obtain ⟨ss, js, h1, h2⟩ := hstp is
    have hlen : ss.length = (p :: g').length := (stF_row h2).1
    refine ⟨tS ss, .dict (tK (tellL (p :: g') ss)), unkeptD (tellL (p :: g') ss) rs, js, h1, fun mh => c_lawtold (sub := sub) hP.ltd (k + 6) _ hnd (by omega) ss hlen mh, fun env h3 h7 h9 mh => ?_, fun mh => ?_, due_same _ _⟩
    · exact itC_due (sub := sub) hP.lkp (k + 6) _ rs _ (fun r hr' => lkIn_of hlen (hin r hr')) i1 (by omega) env h3 h7 h9 mh
    · exact c_broken (sub := sub) hP.toHasBroken (k + 1) _ hr rs hrok hbok hin ss (stF_state h2) (okD_tS (hst ss h2) (decide_eq_true (by omega))) mh) x4 d3
  obtain ⟨j, d5, e8, hj0, hj1⟩ := c_nx (sub := sub) hP.nxt (k + 6) ((rs.length : Int) + 1) d4 (by omega)
  obtain ⟨n, rfl⟩ := Int.eq_ofNat_of_zero_le hj0
  have hnl : n ≤ (rs.map ruleD).length := by rw [List.length_map]; omega
  obtain ⟨x13, r12⟩ := v12 (C := CF P sub (k + 7)) (sc := scriptD ns) (bd := bookD (p :: g') (rs.map ruleD)) (x4 := x4) (x5 := x5) (x6 := x6) (x7 := x7) (x8 := x8) (x10 := some (.dat (onlyD p.1))) (x11 := some (.dat (.int n)))
    (x12 := some (.olst ((wrongsR (p :: g')).map (badRow (gD (p :: g')) ((rs.map ruleD).take n) ((rs.map ruleD).drop n)) ++ noBooks (gD (p :: g')) (rs.map ruleD) ++ [.tuple [gD (p :: g'), .tuple (List.replicate 1001 (onlyD p.1))]]))) (mh := [.lst (iL d5)]) cw c6
  obtain ⟨x13b, r14⟩ := v14 (C := CF P sub (k + 7)) (sc := scriptD ns) (gg := gD (p :: g')) (bd := bookD (p :: g') (rs.map ruleD)) (x4 := x4) (x5 := x5) (x6 := x6) (x7 := x7) (x8 := x8) (x10 := some (.dat (onlyD p.1))) (x11 := some (.dat (.int n))) (x13 := x13) (mh := [.lst (iL d5)])
    (L := (wrongsR (p :: g')).map (badRow (gD (p :: g')) ((rs.map ruleD).take n) ((rs.map ruleD).drop n)) ++ noBooks (gD (p :: g')) (rs.map ruleD) ++ [.tuple [gD (p :: g'), .tuple (List.replicate 1001 (onlyD p.1))]]) (fun w hw => ⟨nb n hnl w hw (k + 3), nk w .none (nb n hnl w hw)⟩)
  obtain ⟨ss1, d6, e6, h6⟩ := hstp d5
  obtain ⟨ss2, d7, e7, h7⟩ := hstp d6
  obtain ⟨s1, t1, rfl⟩ : ∃ s t, ss1 = s :: t := by
    cases ss1 with
    | nil => exact h6.elim
    | cons s t => exact ⟨s, t, rfl⟩
  obtain ⟨s2, t2, rfl⟩ : ∃ s t, ss2 = s :: t := by
    cases ss2 with
    | nil => exact h7.elim
    | cons s t => exact ⟨s, t, rfl⟩
  have hl6 : t1.length ≤ 5 := by have := (stF_row h6).1; simp at this hl; omega
  have hl7 : t2.length ≤ 5 := by have := (stF_row h7).1; simp at this hl; omega
  obtain ⟨x13c, r15⟩ := v15 (C := CF P sub (k + 7)) (sc := scriptD ns) (gg := gD (p :: g')) (bd := bookD (p :: g') (rs.map ruleD)) (x4 := x4) (x5 := x5) (x6 := x6) (x7 := x7) (x8 := x8) (x10 := some (.dat (onlyD p.1))) (x11 := some (.dat (.int n))) (x13 := x13b)
    (x12 := some (.dat (.list ((wrongsR (p :: g')).map (badRow (gD (p :: g')) ((rs.map ruleD).take n) ((rs.map ruleD).drop n)) ++ noBooks (gD (p :: g')) (rs.map ruleD) ++ [.tuple [gD (p :: g'), .tuple (List.replicate 1001 (onlyD p.1))]])))) (s := .str s1) (ss := t1.map .str) (s' := .str s2) (ss' := t2.map .str)
    (mh := [.lst (iL d5)]) (mh1 := [.lst (iL d6)]) (mh2 := [.lst (iL d7)]) (by rw [List.length_map]; omega) e6 e7 (fun w hw => by
      simp only [List.mem_cons, List.not_mem_nil, or_false] at hw
      rcases hw with rfl | rfl | rfl
      · exact ns_ _ rfl rfl
      · exact ns_ (tS t1) (short_no h6) (okD_tS (fun s hs => hst _ h6 s (List.mem_cons_of_mem _ hs)) (decide_eq_true (by omega)))
      · refine ns_ (tS ("?" :: t2)) (quest_no hg h7) (okD_tS (fun s hs => ?_) (decide_eq_true (by simp; omega)))
        rcases List.mem_cons.mp hs with rfl | hs
        · decide
        · exact hst _ h7 s (List.mem_cons_of_mem _ hs))
  refine ⟨[.lst (iL d7)], ?_⟩
  rw [cf_succ hP.law, lv_run]
  suffices h : evSs (CF P sub (k + 7)) (.cons lv0 (.cons lv1 (.cons lv2 (.cons lv3 (.cons lv4 (.cons lv5 (.cons lv6 (.cons lv7 (.cons lv8 (.cons lv9 (.cons lv10 (.cons lv11 (.cons lv12 (.cons lv13 (.cons lv14 (.cons lv15 (.cons lv16 .nil))))))))))))))))) [some (.dat (scriptD ns)), none, none, none, none, none, none, none, none, none, none, none, none, none] [] = .ret (.dat (.bool true)) [.lst (iL d7)] by
    rw [h]; rfl
  have hll : lenD (.tuple (rs.map ruleD)) = some (.int (rs.length : Int)) := by
    show some (PyData.int ((rs.map ruleD).length : Int)) = _
    rw [List.length_map]
  refine stepN (v0 e1) (stepN (v1 e2) (stepN (v2 e3) (stepN (v3 c1 c2) (stepN r4 (stepN r5 (stepN (v6 i0 p0) ?_))))))
  refine stepN (v7 (on := onlyD p.1) (rr := List.replicate 1000 (onlyD p.1)) (fun mh => itC_const _ 10 5 1000 _ _ rfl (by decide) (by simp) (by omega) mh) c5 c4) ?_
  refine stepN (v8 i1 hll e8) (stepN (v9 i1 hnl (by rw [List.length_map]; omega) hwl cw) (stepN (v10 i1 (by rw [List.length_map]; omega)) ?_))
  refine stepN (v11 (on := onlyD p.1) (rr := List.replicate 1001 (onlyD p.1)) (by rw [List.length_append, List.length_map]; show (wrongsR (p :: g')).length + 8 ≤ 2000; omega) (fun mh => itC_const _ 10 5 1001 _ _ rfl (by decide) (by simp) (by omega) mh)) ?_
  refine stepN r12 (stepN v13 (stepN r14 (stepN r15 (stepR (v16 (ng _ _ rfl rfl) (ng _ _ rfl rfl))))))
end Mn
end
section
set_option maxHeartbeats 0
open PySem PySem.Spec PyProof.Rows L2
namespace Mn.K05
def top (i : Nat) : Stmt := PySem.Challenge.pw_justenough_k05_rules_and_books_judged.main.body.getD i (.Pass ⟨0, 0, 0, 0⟩)
def q_is_worth : Df := ⟨295, "is_worth", ["thing"], ["thing", "sign"], Fn.is_worth, top 8⟩
def q_is_name : Df := ⟨265, "is_name", ["thing"], ["thing"], Fn.is_name, top 9⟩
def q_is_rising : Df := ⟨280, "is_rising", ["things"], ["things", "at"], Fn.is_rising, top 10⟩
def q_is_word : Df := ⟨294, "is_word", ["thing", "words"], ["thing", "words"], Fn.is_word, top 11⟩
def q_is_pair : Df := ⟨274, "is_pair", ["thing"], ["thing"], Fn.is_pair, top 12⟩
def q_is_worths : Df := ⟨296, "is_worths", ["thing", "least", "most"], ["thing", "least", "most", "one"], Fn.is_worths, top 13⟩
def q_is_ground : Df := ⟨259, "is_ground", ["thing"], ["thing", "pair", "leaf", "unused"], Fn.is_ground, top 15⟩
def q_ask_ground : Df := ⟨190, "ask_ground", ["ground"], ["ground"], Fn.ask_ground, top 16⟩
def q_leaves_of : Df := ⟨315, "leaves_of", ["ground"], ["ground", "leaf", "unused"], Fn.leaves_of, top 17⟩
def q_is_state_of : Df := ⟨285, "is_state_of", ["ground", "thing"], ["ground", "thing", "worth", "pair"], Fn.is_state_of, top 18⟩
def q_is_one_to_one : Df := ⟨273, "is_one_to_one", ["rows"], ["rows", "firsts", "a", "b", "seconds"], Fn.is_one_to_one, top 21⟩
def q_is_rows_of : Df := ⟨281, "is_rows_of", ["thing", "firsts", "seconds"], ["thing", "firsts", "seconds", "pair"], Fn.is_rows_of, top 22⟩
def q_is_rule_of : Df := ⟨283, "is_rule_of", ["ground", "thing"], ["ground", "thing", "worths", "word", "worth", "second"], Fn.is_rule_of, top 23⟩
def q_is_rule : Df := ⟨282, "is_rule", ["ground", "thing"], ["ground", "thing"], Fn.is_rule, top 24⟩
def q_is_book : Df := ⟨249, "is_book", ["thing"], ["thing", "rule"], Fn.is_book, top 25⟩
def q_ask_book : Df := ⟨183, "ask_book", ["book"], ["book"], Fn.ask_book, top 26⟩
def q_keeps_rule : Df := ⟨300, "keeps_rule", ["rule", "told"], ["rule", "told"], Fn.keeps_rule, top 27⟩
def q_told_of : Df := ⟨384, "told_of", ["ground", "state"], ["ground", "state"], Fn.told_of, top 28⟩
def q_broken_by : Df := ⟨209, "broken_by", ["book", "state"], ["book", "state", "told", "number", "rule"], Fn.broken_by, top 29⟩
def q_x_law_draws : Df := ⟨31, "_law_draws", ["script", "many"], ["script", "many", "cells", "cell", "left", "draws", "k", "at", "mixed"], Fn.x_law_draws, top 31⟩
def q_x_law_next : Df := ⟨103, "_law_next", ["draws", "many"], ["draws", "many"], Fn.x_law_next, top 32⟩
def q_x_law_ground : Df := ⟨50, "_law_ground", ["draws", "most"], ["draws", "most", "ground", "names", "k", "worths"], Fn.x_law_ground, top 33⟩
def q_x_law_all : Df := ⟨4, "_law_all", ["ground"], ["ground", "states", "pair", "more", "state", "worth"], Fn.x_law_all, top 34⟩
def q_x_law_told : Df := ⟨154, "_law_told", ["ground", "state"], ["ground", "state", "told", "k"], Fn.x_law_told, top 35⟩
def q_x_law_state : Df := ⟨143, "_law_state", ["draws", "ground"], ["draws", "ground", "pair"], Fn.x_law_state, top 36⟩
def q_x_law_edit : Df := ⟨33, "_law_edit", ["draws", "ground", "most"], ["draws", "ground", "most", "told", "pair"], Fn.x_law_edit, top 37⟩
def q_x_law_has : Df := ⟨52, "_law_has", ["ground", "state", "edit"], ["ground", "state", "edit", "told", "pair"], Fn.x_law_has, top 38⟩
def q_x_law_keeps : Df := ⟨82, "_law_keeps", ["rule", "told"], ["rule", "told"], Fn.x_law_keeps, top 39⟩
def q_x_law_pairs_of : Df := ⟨116, "_law_pairs_of", ["draws", "one", "other", "told"], ["draws", "one", "other", "told", "firsts", "seconds", "rows", "shift", "k"], Fn.x_law_pairs_of, top 40⟩
def q_x_law_rule : Df := ⟨131, "_law_rule", ["draws", "ground", "told"], ["draws", "ground", "told", "one", "other", "choice", "worths", "worth", "u", "w"], Fn.x_law_rule, top 41⟩
def q_x_law_book : Df := ⟨14, "_law_book", ["draws", "ground", "most", "is_free"], ["draws", "ground", "most", "is_free", "told", "rules", "k"], Fn.x_law_book, top 42⟩
def q_x_law_states : Df := ⟨145, "_law_states", ["book"], ["book", "states", "state", "told", "rule"], Fn.x_law_states, top 43⟩
def q_x_law_wrongs : Df := ⟨174, "_law_wrongs", ["ground"], ["ground", "a", "u", "told", "b", "w"], Fn.x_law_wrongs, top 44⟩
def q_x_law_kind : Df := ⟨84, "_law_kind", ["word", "thing", "other"], ["word", "thing", "other", "e", "kinds", "k"], Fn.x_law_kind_4, top 45⟩
def q_x_law : Df := ⟨303, "law", ["script"], ["script", "draws", "ground", "book", "rule", "k", "state", "told", "due", "n", "only", "place", "wrongs", "wrong"], Fn.x_law_6, top 46⟩
def law : Law := ⟨[q_is_worth, q_is_name, q_is_rising, q_is_word, q_is_pair, q_is_worths, q_is_ground, q_ask_ground, q_leaves_of, q_is_state_of, q_is_one_to_one, q_is_rows_of, q_is_rule_of, q_is_rule, q_is_book, q_ask_book, q_keeps_rule, q_told_of, q_broken_by, q_x_law_draws, q_x_law_next, q_x_law_ground, q_x_law_all, q_x_law_told, q_x_law_state, q_x_law_edit, q_x_law_has, q_x_law_keeps, q_x_law_pairs_of, q_x_law_rule, q_x_law_book, q_x_law_states, q_x_law_wrongs, q_x_law_kind, q_x_law], [(5, "EnoughError", true), (11, "NoBook", true), (15, "NoGround", true), (29, "NoState", true), (38, "ValueError", false)], "EnoughError", [((5, 5), true), ((5, 11), false), ((5, 15), false), ((5, 29), false), ((5, 38), true), ((11, 5), true), ((11, 11), true), ((11, 15), false), ((11, 29), false), ((11, 38), true), ((15, 5), true), ((15, 11), false), ((15, 15), true), ((15, 29), false), ((15, 38), true), ((29, 5), true), ((29, 11), false), ((29, 15), false), ((29, 29), true), ((29, 38), true)], [(0, "LETTERS", (.str "abcdefghijklmnopqrstuvwxyz")), (11, "SIGNS", (.str "abcdefghijklmnopqrstuvwxyz0123456789")), (8, "MOST_RULES", (.int 1000))]⟩
theorem b_is_worth : BindOk q_is_worth := fun _ _ _ _ _ _ us hl => match us, hl with | [_], _ => rfl
theorem b_is_name : BindOk q_is_name := fun _ _ _ _ _ _ us hl => match us, hl with | [_], _ => rfl
theorem b_is_rising : BindOk q_is_rising := fun _ _ _ _ _ _ us hl => match us, hl with | [_], _ => rfl
theorem b_is_word : BindOk q_is_word := fun _ _ _ _ _ _ us hl => match us, hl with | [_, _], _ => rfl
theorem b_is_pair : BindOk q_is_pair := fun _ _ _ _ _ _ us hl => match us, hl with | [_], _ => rfl
theorem b_is_worths : BindOk q_is_worths := fun _ _ _ _ _ _ us hl => match us, hl with | [_, _, _], _ => rfl
theorem b_is_ground : BindOk q_is_ground := fun _ _ _ _ _ _ us hl => match us, hl with | [_], _ => rfl
theorem b_ask_ground : BindOk q_ask_ground := fun _ _ _ _ _ _ us hl => match us, hl with | [_], _ => rfl
theorem b_leaves_of : BindOk q_leaves_of := fun _ _ _ _ _ _ us hl => match us, hl with | [_], _ => rfl
theorem b_is_state_of : BindOk q_is_state_of := fun _ _ _ _ _ _ us hl => match us, hl with | [_, _], _ => rfl
theorem b_is_one_to_one : BindOk q_is_one_to_one := fun _ _ _ _ _ _ us hl => match us, hl with | [_], _ => rfl
theorem b_is_rows_of : BindOk q_is_rows_of := fun _ _ _ _ _ _ us hl => match us, hl with | [_, _, _], _ => rfl
theorem b_is_rule_of : BindOk q_is_rule_of := fun _ _ _ _ _ _ us hl => match us, hl with | [_, _], _ => rfl
theorem b_is_rule : BindOk q_is_rule := fun _ _ _ _ _ _ us hl => match us, hl with | [_, _], _ => rfl
theorem b_is_book : BindOk q_is_book := fun _ _ _ _ _ _ us hl => match us, hl with | [_], _ => rfl
theorem b_ask_book : BindOk q_ask_book := fun _ _ _ _ _ _ us hl => match us, hl with | [_], _ => rfl
theorem b_keeps_rule : BindOk q_keeps_rule := fun _ _ _ _ _ _ us hl => match us, hl with | [_, _], _ => rfl
theorem b_told_of : BindOk q_told_of := fun _ _ _ _ _ _ us hl => match us, hl with | [_, _], _ => rfl
theorem b_broken_by : BindOk q_broken_by := fun _ _ _ _ _ _ us hl => match us, hl with | [_, _], _ => rfl
theorem b_x_law_draws : BindOk q_x_law_draws := fun _ _ _ _ _ _ us hl => match us, hl with | [_, _], _ => rfl
theorem b_x_law_next : BindOk q_x_law_next := fun _ _ _ _ _ _ us hl => match us, hl with | [_, _], _ => rfl
theorem b_x_law_ground : BindOk q_x_law_ground := fun _ _ _ _ _ _ us hl => match us, hl with | [_, _], _ => rfl
theorem b_x_law_all : BindOk q_x_law_all := fun _ _ _ _ _ _ us hl => match us, hl with | [_], _ => rfl
theorem b_x_law_told : BindOk q_x_law_told := fun _ _ _ _ _ _ us hl => match us, hl with | [_, _], _ => rfl
theorem b_x_law_state : BindOk q_x_law_state := fun _ _ _ _ _ _ us hl => match us, hl with | [_, _], _ => rfl
theorem b_x_law_edit : BindOk q_x_law_edit := fun _ _ _ _ _ _ us hl => match us, hl with | [_, _, _], _ => rfl
theorem b_x_law_has : BindOk q_x_law_has := fun _ _ _ _ _ _ us hl => match us, hl with | [_, _, _], _ => rfl
theorem b_x_law_keeps : BindOk q_x_law_keeps := fun _ _ _ _ _ _ us hl => match us, hl with | [_, _], _ => rfl
theorem b_x_law_pairs_of : BindOk q_x_law_pairs_of := fun _ _ _ _ _ _ us hl => match us, hl with | [_, _, _, _], _ => rfl
theorem b_x_law_rule : BindOk q_x_law_rule := fun _ _ _ _ _ _ us hl => match us, hl with | [_, _, _], _ => rfl
theorem b_x_law_book : BindOk q_x_law_book := fun _ _ _ _ _ _ us hl => match us, hl with | [_, _, _, _], _ => rfl
theorem b_x_law_states : BindOk q_x_law_states := fun _ _ _ _ _ _ us hl => match us, hl with | [_], _ => rfl
theorem b_x_law_wrongs : BindOk q_x_law_wrongs := fun _ _ _ _ _ _ us hl => match us, hl with | [_], _ => rfl
theorem b_x_law_kind : BindOk q_x_law_kind := fun _ _ _ _ _ _ us hl => match us, hl with | [_, _, _], _ => rfl
theorem b_x_law : BindOk q_x_law := fun _ _ _ _ _ _ us hl => match us, hl with | [_], _ => rfl
theorem binds : ∀ q ∈ law.df, BindOk q := (List.forall_mem_cons.mpr ⟨b_is_worth, (List.forall_mem_cons.mpr ⟨b_is_name, (List.forall_mem_cons.mpr ⟨b_is_rising, (List.forall_mem_cons.mpr ⟨b_is_word, (List.forall_mem_cons.mpr ⟨b_is_pair, (List.forall_mem_cons.mpr ⟨b_is_worths, (List.forall_mem_cons.mpr ⟨b_is_ground, (List.forall_mem_cons.mpr ⟨b_ask_ground, (List.forall_mem_cons.mpr ⟨b_leaves_of, (List.forall_mem_cons.mpr ⟨b_is_state_of, (List.forall_mem_cons.mpr ⟨b_is_one_to_one, (List.forall_mem_cons.mpr ⟨b_is_rows_of, (List.forall_mem_cons.mpr ⟨b_is_rule_of, (List.forall_mem_cons.mpr ⟨b_is_rule, (List.forall_mem_cons.mpr ⟨b_is_book, (List.forall_mem_cons.mpr ⟨b_ask_book, (List.forall_mem_cons.mpr ⟨b_keeps_rule, (List.forall_mem_cons.mpr ⟨b_told_of, (List.forall_mem_cons.mpr ⟨b_broken_by, (List.forall_mem_cons.mpr ⟨b_x_law_draws, (List.forall_mem_cons.mpr ⟨b_x_law_next, (List.forall_mem_cons.mpr ⟨b_x_law_ground, (List.forall_mem_cons.mpr ⟨b_x_law_all, (List.forall_mem_cons.mpr ⟨b_x_law_told, (List.forall_mem_cons.mpr ⟨b_x_law_state, (List.forall_mem_cons.mpr ⟨b_x_law_edit, (List.forall_mem_cons.mpr ⟨b_x_law_has, (List.forall_mem_cons.mpr ⟨b_x_law_keeps, (List.forall_mem_cons.mpr ⟨b_x_law_pairs_of, (List.forall_mem_cons.mpr ⟨b_x_law_rule, (List.forall_mem_cons.mpr ⟨b_x_law_book, (List.forall_mem_cons.mpr ⟨b_x_law_states, (List.forall_mem_cons.mpr ⟨b_x_law_wrongs, (List.forall_mem_cons.mpr ⟨b_x_law_kind, (List.forall_mem_cons.mpr ⟨b_x_law, (fun _ h => nomatch h)⟩)⟩)⟩)⟩)⟩)⟩)⟩)⟩)⟩)⟩)⟩)⟩)⟩)⟩)⟩)⟩)⟩)⟩)⟩)⟩)⟩)⟩)⟩)⟩)⟩)⟩)⟩)⟩)⟩)⟩)⟩)⟩)⟩)⟩)⟩)
def loose0 : List Str := ["__name__", "EnoughError", "NoBook", "NoGround", "NoState", "LETTERS", "SIGNS", "is_worth", "is_name", "is_rising", "is_word", "is_pair", "is_worths", "is_ground", "ask_ground", "leaves_of", "is_state_of", "MOST_RULES", "is_one_to_one", "is_rows_of", "is_rule_of", "is_rule", "is_book", "ask_book", "keeps_rule"]
def loose1 : List Str := ["told_of", "broken_by", "_law_draws", "_law_next", "_law_ground", "_law_all", "_law_told", "_law_state", "_law_edit", "_law_has", "_law_keeps", "_law_pairs_of", "_law_rule", "_law_book", "_law_states", "_law_wrongs", "_law_kind"]
def loose : List Str := loose0 ++ loose1
abbrev R : PySem.W.OpenRow := PySem.W.OpenLaw.row PySem.Challenge.rw_justenough_k05_rules_and_books_judged
abbrev hk : PySem.W.Hook := hookM 5 law.fa law.fn law.ex
def ob (s : PySem.W.SharedT) : AlM := obsM 5 law.fa law.fn law.ex (HandSHeadRun.getT s)
theorem ob_eq (s : PySem.W.SharedT) : ob s = hk.obs s.abs := obsM_eq (HandSHeadRun.getT_eq s)
theorem run (w : World) : HandSHeadRun.RunEq R (PySem.W.view R.prog [46]) hk ob 4000 loose w := by
  intro os
  kernel_rfl
theorem okB : law.okB = true := by kernel_rfl
end Mn.K05
end
namespace Mn.K05
open PySem
theorem hasK : HasK05 (progOf law.df) where
  wo := rfl
  na := rfl
  ri := rfl
  pa := rfl
  ws := rfl
  gr := rfl
  wd := rfl
  oo := rfl
  ro := rfl
  rl := rfl
  ak := rfl
  rr := rfl
  bk := rfl
  ab := rfl
  so := rfl
  lv := rfl
  to_ := rfl
  kp := rfl
  br := rfl
  drw := rfl
  nxt := rfl
  gnd := rfl
  sta := rfl
  lbk := rfl
  lrl := rfl
  lpo := rfl
  ltd := rfl
  lkp := rfl
  wrg := rfl
  knd := rfl
  law := rfl
theorem ends (ns : List Int) (hn : ns.length ≤ 63) : ∃ mh, callN (progOf law.df) law.subF 8 303 [.dat (scriptD ns)] [] = .ok (.dat (.bool true)) mh :=
  c_law05 (P := progOf law.df) (sub := law.subF) hasK rfl rfl rfl rfl rfl rfl rfl rfl rfl rfl rfl rfl 0 ns hn
end Mn.K05
open PySem PySem.W PySem.Calls PyProof.Rows
set_option maxHeartbeats 0
theorem PySem.Challenge.cw_justenough_k05_rules_and_books_judged_holds : PySem.Challenge.rw_justenough_k05_rules_and_books_judged.Holds := by
  w_on; o_law
  refine HandSHeadRun.head_any (r := OpenLaw.row PySem.Challenge.rw_justenough_k05_rules_and_books_judged) (q := view (OpenLaw.row PySem.Challenge.rw_justenough_k05_rules_and_books_judged).prog [46]) (H := Mn.K05.hk) (ob := Mn.K05.ob) (M := 4000) (loose := Mn.K05.loose) (d := HandSHeadRun.topDef (OpenLaw.row PySem.Challenge.rw_justenough_k05_rules_and_books_judged).prog 46) (kwd := []) Mn.K05.ob_eq
    (by kernel_rfl) (fun s => by kernel_rfl) Mn.K05.run (by kernel_rfl) (by kernel_rfl) (by kernel_rfl) (by rfl) (by first | assumption | decide +kernel) (by decide +kernel) ⟨rfl, rfl, rfl, rfl, rfl, by decide +kernel⟩ ?hw ?hc
  case hw => w_witness2
  case hc =>
    exact Mn.Law.walk (L := PySem.Challenge.rw_justenough_k05_rules_and_books_judged) (n := 63) (k := 8) (f := 303) (dq := Mn.K05.q_x_law) Mn.K05.law 5 Mn.K05.okB Mn.K05.binds rfl (by decide) (by kernel_rfl) ⟨rfl, by decide, by decide⟩ rfl (by kernel_rfl) ⟨_, rfl⟩ Mn.K05.ends
