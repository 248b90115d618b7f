import PyProof.Rows.All
import Wide.All
import OpenK.AllK
import Wide.FinOn
import HandS.ForMost
import HandS.Exc
import KE.DataEq
import KE.DataCmp
import KE.SortData
import HandS.Style
import HandS.Text
import HandS.TupAny
import HandS.IsInst
import HandS.TupLen
import KE.KDictPairs
import HandS.Zip
import KE.GoesMore
import KE.GoesEnum
import PyProof.EnumMake
import HandS.TryOnly
import HandS.CallSlots
import HandS.Flow
import HandS.Comp
import HandS.ExcIs
import PyProof.ExcBaseAll.ValueError
import HandS.Defaults
import HandS.WordsExc
import HandS.Ends
import HandS.HeadHook1
import HandS.HeadHook2
import HandS.HeadHook4
import HandS.HeadEnd
import HandS.Head0
import HandS.Head1
import HandS.Head2
import PySem.Challenge.RW_justenough_k00_grounds_states_and_edits
set_option Elab.async false
set_option linter.all false
set_option autoImplicit false
set_option maxRecDepth 100000
section
set_option linter.all false
set_option autoImplicit false
/-! Mini: a small language (no positions) and its evaluator over data and a heap of cells. -/
namespace Mn
open PySem

/-- what a name holds: data; a cell; a list or a dict of the name's own -/
inductive RV where
  | dat (d : PyData) | ref (n : Nat) | olst (xs : List PyData) | odct (kvs : List (PyData × PyData)) | xcp (c : Nat) (arg : Option PyData)
  deriving Inhabited
/-- a cell of the heap: a list, a dict, an instance (class, fields), nothing any more -/
inductive Cell where
  | lst (xs : List PyData) | dct (kvs : List (PyData × PyData)) | ins (c : Nat) (fs : List (Nat × RV)) | dead
  deriving Inhabited
abbrev MH := List Cell
abbrev MEnv := List (Option RV)
structure Exn where
  c : Nat
  arg : Option PyData
  deriving Inhabited
inductive Out (α : Type) where
  | ok (a : α) (mh : MH) | exc (x : Exn) (mh : MH) | stuck
@[simp] def Out.bind {α β : Type} : Out α → (α → MH → Out β) → Out β
  | .ok a mh, k => k a mh
  | .exc x mh, _ => .exc x mh
  | .stuck, _ => .stuck
/-- what the defs do; which class is under which -/
structure CallF where
  call : Nat → List RV → MH → Out RV
  sub : Nat → Nat → Option Bool

/-! ### operations on data -/
def big (n : Nat) : Bool := decide (n ≤ 16777216)
def depOk (d : PyData) : Bool := d.plain && decide (d.depth ≤ 64)
def eqD (d e : PyData) : Option Bool := if depOk d && depOk e then some (PyData.eqv d e) else none
/-- the place that an index of any sign means -/
def ixD (n : Nat) (i : Int) : Option Nat := L2.ixN n i
def atD (xs : List PyData) (i : Int) : Option PyData := L2.atI xs i
def nn : PyData → Bool
  | .none => false
  | _ => true
def ltD (d e : PyData) : Option Bool := if depOk d && depOk e && PySem.W.alike d e && nn d then some (PySem.W.dataLt d e) else none
/-- the keys of dicts: ints, texts, tuples of these -/
def isKey1 : PyData → Bool
  | .int _ => true
  | .str _ => true
  | _ => false
def isKeyT : PyData → Bool
  | .tuple ks => ks.all isKey1
  | _ => false
def key1Eq : PyData → PyData → Bool
  | .int i, .int j => decide (i = j)
  | .str i, .str j => decide (i = j)
  | _, _ => false
def keysEq : List PyData → List PyData → Bool
  | [], [] => true
  | x :: xs, y :: ys => key1Eq x y && keysEq xs ys
  | _, _ => false
def keyEq : PyData → PyData → Bool
  | .tuple xs, .tuple ys => keysEq xs ys
  | x, y => key1Eq x y
/-- the kind of a dict's keys fits -/
def kindOk (kvs : List (PyData × PyData)) (k : PyData) : Bool :=
  (isKey1 k && kvs.all fun p => isKey1 p.1) || (isKeyT k && kvs.all fun p => isKeyT p.1)
def dget : List (PyData × PyData) → PyData → Option PyData
  | [], _ => none
  | (k, v) :: r, x => if keyEq k x then some v else dget r x
def dput (kvs : List (PyData × PyData)) (x y : PyData) : List (PyData × PyData) :=
  if kvs.any (fun p => keyEq p.1 x) then kvs.map (fun p => if keyEq p.1 x then (p.1, y) else p) else kvs ++ [(x, y)]
/-- one sign, or a text, within a text -/
def inStr (i j : Str) : Bool := match i with
  | ⟨⟨[c]⟩⟩ => decide (c ∈ j.cps.toList)
  | _ => !(Builtin.Str.occurrences j i 0 j.length 1).isEmpty
def inD (x c : PyData) : Option Bool := match c with
  | .list xs => if depOk x && depOk c then some (xs.any fun z => PyData.eqv z x) else none
  | .tuple xs => if depOk x && depOk c then some (xs.any fun z => PyData.eqv z x) else none
  | .str s => (match x with
    | .str i => some (inStr i s)
    | _ => none)
  | .dict kvs => if kindOk kvs x then some (dget kvs x).isSome else none
  | _ => none
def isD (x y : PyData) : Option Bool := match x, y with
  | .none, .none => some true
  | .bool _, .none => some false
  | .int _, .none => some false
  | .str _, .none => some false
  | .list _, .none => some false
  | .tuple _, .none => some false
  | .dict _, .none => some false
  | .bool a, .bool b => some (decide (a = b))
  | _, _ => none
def cmpD (op : CmpOp) (d e : PyData) : Option Bool := match op with
  | .Eq => eqD d e
  | .NotEq => (eqD d e).map not
  | .Lt => ltD d e
  | .Gt => ltD e d
  | .LtE => (ltD e d).map not
  | .GtE => (ltD d e).map not
  | .In => inD d e
  | .NotIn => (inD d e).map not
  | .Is => isD d e
  | .IsNot => (isD d e).map not
def truD : PyData → Option Bool
  | .none => some false
  | .bool b => some b
  | .int i => some (i != 0)
  | .str s => if big s.length then some (s.length != 0) else none
  | .list xs => some !xs.isEmpty
  | .tuple xs => some !xs.isEmpty
  | .dict _ => none
def small64 (i : Int) : Bool := decide (-(2 ^ 64) < i ∧ i < 2 ^ 64)
def binD (op : Operator) (d e : PyData) : Option PyData := match op, d, e with
  | .Add, .int i, .int j => some (.int (i + j))
  | .Add, .str a, .str b => if big (a.length + b.length) then some (.str (a ++ b)) else none
  | .Add, .list xs, .list ys => if big (xs.length + ys.length) then some (.list (xs ++ ys)) else none
  | .Add, .tuple xs, .tuple ys => if big (xs.length + ys.length) then some (.tuple (xs ++ ys)) else none
  | .Sub, .int i, .int j => some (.int (i - j))
  | .Mult, .int i, .int j => if small64 i || small64 j then some (.int (i * j)) else none
  | .FloorDiv, .int i, .int j => if decide (0 < j ∧ j < 1073741824) then some (.int (i / j)) else none
  | .Mod, .int i, .int j => if decide (0 < j) then some (.int (i % j)) else none
  | .Pow, .int i, .int j => if decide (0 ≤ j ∧ j ≤ 1000000) && small64 i && small64 (-i) then some (.int (i ^ j.toNat)) else none
  | _, _, _ => none
/-- a[i] -/
def idxD (d i : PyData) : Option PyData := match d, i with
  | .list xs, .int k => atD xs k
  | .tuple xs, .int k => atD xs k
  | .str s, .int k => if big s.length then (L2.atI s.cps.toList k).map fun c => .str ⟨#[c]⟩ else none
  | .dict kvs, k => if kindOk kvs k then dget kvs k else none
  | _, _ => none
/-- where a slice begins, ends -/
def cutD {α : Type} (xs : List α) (lo hi : Option Int) : List α := (xs.drop (HT.sIx xs.length 0 lo)).take (HT.sIx xs.length xs.length hi - HT.sIx xs.length 0 lo)
def sliD (d : PyData) (lo hi : Option Int) : Option PyData := match d with
  | .list xs => some (.list (cutD xs lo hi))
  | .tuple xs => some (.tuple (cutD xs lo hi))
  | _ => none
/-- built-in classes of isinstance -/
inductive Ty where
  | tup | str | int | bool | list | dict | lt
  deriving DecidableEq
def tyD (t : Ty) (d : PyData) : Bool := match t, d with
  | .tup, .tuple _ => true
  | .str, .str _ => true
  | .int, .int _ => true
  | .int, .bool _ => true
  | .bool, .bool _ => true
  | .list, .list _ => true
  | .dict, .dict _ => true
  | .lt, .list _ => true
  | .lt, .tuple _ => true
  | _, _ => false
/-- built-in functions of one or two values -/
inductive Blt where
  | len | tup | lst | dct | sorted | all | any | int | str | abs | min2
  deriving DecidableEq
def bools : List PyData → Option (List Bool)
  | [] => some []
  | .bool b :: r => (bools r).map fun l => b :: l
  | _ => none
/-- dict(pairs) -/
def pairsD : List PyData → List (PyData × PyData) → Option (List (PyData × PyData))
  | [], acc => some acc
  | .tuple [k, v] :: r, acc => if isKey1 k then pairsD r (dput acc k v) else none
  | _, _ => none
def sortD (xs : List PyData) : Option (List PyData) :=
  if (xs.all fun x => xs.all fun y => PySem.W.alike x y) && ((xs.all fun x => match x with | .tuple (_ :: _) => true | _ => false) || (xs.all fun x => match x with | .none => false | .tuple _ => false | _ => true)) && xs.all depOk then
    some (xs.mergeSort fun a b => !PySem.W.dataLt b a) else none
def un (f : PyData → Option PyData) : List PyData → Option PyData
  | [d] => f d
  | _ => none
def lenD : PyData → Option PyData
  | .str s => if big s.length then some (.int s.length) else none
  | .list xs => some (.int xs.length)
  | .tuple xs => some (.int xs.length)
  | .dict kvs => some (.int kvs.length)
  | _ => none
def tupD : PyData → Option PyData
  | .list xs => some (.tuple xs)
  | .tuple xs => some (.tuple xs)
  | _ => none
def lstD : PyData → Option PyData
  | .list xs => some (.list xs)
  | .tuple xs => some (.list xs)
  | _ => none
def dctD : PyData → Option PyData
  | .list xs => (pairsD xs []).map .dict
  | .tuple xs => (pairsD xs []).map .dict
  | _ => none
def sortedD : PyData → Option PyData
  | .list xs => (sortD xs).map .list
  | _ => none
def allD : PyData → Option PyData
  | .list xs => (bools xs).map fun l => .bool (l.all id)
  | _ => none
def anyD : PyData → Option PyData
  | .list xs => (bools xs).map fun l => .bool (l.any id)
  | _ => none
def intD : PyData → Option PyData
  | .int i => some (.int i)
  | .bool b => some (.int (if b then 1 else 0))
  | _ => none
def strD : PyData → Option PyData
  | .int i => if decide (i.natAbs.log2 < 1920) then some (.str (toString i)) else none
  | _ => none
def absD : PyData → Option PyData
  | .int i => some (.int (if i < 0 then -i else i))
  | _ => none
def min2D : List PyData → Option PyData
  | [.int i, .int j] => some (.int (if j < i then j else i))
  | _ => none
def bltD (b : Blt) (ds : List PyData) : Option PyData := match b with
  | .len => un lenD ds
  | .tup => un tupD ds
  | .lst => un lstD ds
  | .dct => un dctD ds
  | .sorted => un sortedD ds
  | .all => un allD ds
  | .any => un anyD ds
  | .int => un intD ds
  | .str => un strD ds
  | .abs => un absD ds
  | .min2 => min2D ds
/-- methods of built-in types that read -/
inductive Mth where
  | get2 | join
  deriving DecidableEq
def strsD : List PyData → Option (List Str)
  | [] => some []
  | .str s :: r => (strsD r).map fun l => s :: l
  | _ => none
def joinD (s : Str) (xs : List PyData) : Option PyData := match strsD xs with
  | some ys => if big ((ys.map (·.length)).sum + ys.length * s.length) then some (.str (Str.join s ys)) else none
  | none => none
def mthD (m : Mth) (o : PyData) (ds : List PyData) : Option PyData := match m, o, ds with
  | .get2, .dict kvs, [k, e] => if kindOk kvs k then some ((dget kvs k).getD e) else none
  | .join, .str s, [.list xs] => joinD s xs
  | .join, .str s, [.tuple xs] => joinD s xs
  | _, _, _ => none

/-! ### the language -/
/-- targets: a name's slot, a tuple of targets -/
inductive Tg where
  | nm (i : Nat) | nil | cons (t : Tg) (ts : Tg)
mutual
inductive E where
  | var (i : Nat)
  | cst (d : PyData)
  | glb (k : Nat) (d : PyData)
  | and_ (a b : E)
  | or_ (a b : E)
  | not_ (a : E)
  | cmp (op : CmpOp) (a b : E)
  | chain (op op' : CmpOp) (a b c : E)
  | bin (op : Operator) (a b : E)
  | cat (a b : E)
  | neg (a : E)
  | ite (c a b : E)
  | tup (es : Es)
  | lst (es : Es)
  | dsp (es : Es)
  | idx (a b : E)
  | slc (lo hi : Bool) (a l h : E)
  | isi (a : E) (t : Ty)
  | isx (i : Nat) (c : Nat)
  | xat (i : Nat) (c : Nat)
  | blt (b : Blt) (es : Es)
  | mth (m : Mth) (o : E) (es : Es)
  | popA (o : E) (es : Es)
  | call (f : Nat) (es : Es)
  | pcall (f : Nat) (es : Es)
  | comp (elt : E) (tg : Tg) (it : It) (c : E) (own : List Nat)
inductive Es where
  | nil
  | cons (e : E) (es : Es)
  | star (e : E) (es : Es)
inductive It where
  | of (e : E)
  | rng1 (a : E)
  | rng2 (a b : E)
  | zip2 (a b : E)
  | zip3 (a b c : E)
  | enum (a : E)
end
mutual
inductive S where
  | expr (e : E)
  | asg (t : Tg) (e : E)
  | asgO (i : Nat) (e : E)
  | asgH (i : Nat) (e : E)
  | app (i : Nat) (e : E)
  | setI (i : Nat) (k v : E)
  | aug (i : Nat) (op : Operator) (e : E)
  | ret (e : E)
  | retM (e : E)
  | retN
  | if_ (c : E) (a b : Ss)
  | for_ (t : Tg) (it : It) (body : Ss)
  | while_ (fuel : Nat) (c : E) (body : Ss)
  | brk
  | cont
  | pass
  | raise (c : Nat) (es : Es)
  | try_ (body : Ss) (c : Nat) (i : Option Nat) (suite : Ss)
  | frz (i : Nat)
  | nv
inductive Ss where
  | nil
  | cons (s : S) (r : Ss)
end

/-! ### the evaluator -/
def view (mh : MH) : RV → Option PyData
  | .dat d => some d
  | .olst xs => some (.list xs)
  | .odct kvs => some (.dict kvs)
  | .xcp _ _ => none
  | .ref n => match mh[n]? with
    | some (.lst xs) => some (.list xs)
    | some (.dct kvs) => some (.dict kvs)
    | _ => none
def viewE (rv : RV) (mh : MH) : Out PyData := match view mh rv with
  | some d => .ok d mh
  | none => .stuck
def ofD (o : Option PyData) (mh : MH) : Out RV := match o with
  | some d => .ok (.dat d) mh
  | none => .stuck
def ofB (o : Option Bool) (mh : MH) : Out RV := match o with
  | some b => .ok (.dat (.bool b)) mh
  | none => .stuck
def ofT (o : Option Bool) (mh : MH) : Out Bool := match o with
  | some b => .ok b mh
  | none => .stuck
def bindT : Tg → PyData → MEnv → Option MEnv
  | .nm i, d, env => if i < env.length then some (env.set i (some (.dat d))) else none
  | .nil, .tuple [], env => some env
  | .nil, .list [], env => some env
  | .cons t ts, .tuple (d :: ds), env => (bindT t d env).bind fun env' => bindT ts (.tuple ds) env'
  | .cons t ts, .list (d :: ds), env => (bindT t d env).bind fun env' => bindT ts (.list ds) env'
  | _, _, _ => none
def wipeM (env : MEnv) : List Nat → MEnv
  | [] => env
  | v :: vs => (wipeM env vs).set v none
/-- the turns of a comprehension -/
def compL (turn : PyData → MH → Out (Option PyData)) : List PyData → MH → List PyData → Out (List PyData)
  | [], mh, acc => .ok acc mh
  | x :: xs, mh, acc => (turn x mh).bind fun r mh' => match r with
    | some d => compL turn xs mh' (acc ++ [d])
    | none => compL turn xs mh' acc
def noExc {α : Type} : Out α → Out α
  | .exc _ _ => .stuck
  | o => o
def zipD2 : List PyData → List PyData → List PyData
  | x :: xs, y :: ys => .tuple [x, y] :: zipD2 xs ys
  | _, _ => []
def zipD3 : List PyData → List PyData → List PyData → List PyData
  | x :: xs, y :: ys, z :: zs => .tuple [x, y, z] :: zipD3 xs ys zs
  | _, _, _ => []
def enumD : Nat → List PyData → List PyData
  | _, [] => []
  | n, x :: xs => .tuple [.int n, x] :: enumD (n + 1) xs
def rngD (lo : Int) : Nat → List PyData
  | 0 => []
  | n + 1 => .int lo :: rngD (lo + 1) n
/-- what is walked of data -/
def itemsD : PyData → Option (List PyData)
  | .list xs => some xs
  | .tuple xs => some xs
  | .str s => some (s.cps.toList.map fun c => .str ⟨#[c]⟩)
  | _ => none
def seqD : PyData → Option (List PyData)
  | .list xs => some xs
  | .tuple xs => some xs
  | _ => none
def datOnly : RV → Option PyData
  | .dat d => some d
  | _ => none
/-- no list, no dict lies within -/
def noLd : PyData → Bool
  | .none => true
  | .bool _ => true
  | .int _ => true
  | .str _ => true
  | .tuple xs => noLdA xs
  | _ => false
where noLdA : List PyData → Bool
  | [] => true
  | x :: xs => noLd x && noLdA xs
def views (mh : MH) : List RV → Option (List PyData)
  | [] => some []
  | r :: rs => match view mh r, views mh rs with
    | some d, some ds => some (d :: ds)
    | _, _ => none
def RV.passes : RV → Bool
  | .dat _ => true
  | .ref _ => true
  | _ => false
def RV.isDat : RV → Bool
  | .dat _ => true
  | _ => false
/-- a call that sees no cell: b: nothing is lent to it -/
def pureCall (b : Bool) (o : Out RV) (mh : MH) : Out RV := match o with
  | .ok (.dat d) _ => if b || noLd d then .ok (.dat d) mh else .stuck
  | .ok (.olst xs) _ => if b || noLd.noLdA xs then .ok (.olst xs) mh else .stuck
  | .ok (.odct kvs) _ => if b then .ok (.odct kvs) mh else .stuck
  | .exc x _ => if b || (match x.arg with | some d => noLd d | none => true) then .exc x mh else .stuck
  | _ => .stuck
/-- a dict display: keys and values, one behind the other -/
def putAll : List PyData → List (PyData × PyData) → Option (List (PyData × PyData))
  | [], acc => some acc
  | k :: v :: r, acc => if isKey1 k then putAll r (dput acc k v) else none
  | _, _ => none
def dspD (ds : List PyData) : Option PyData := if decide (ds.length ≤ 30) then (putAll ds []).map .dict else none
def mthTy (m : Mth) (o : Option PyData) : Bool := match m, o with
  | .get2, some (.dict _) => true
  | .join, some (.str _) => true
  | _, _ => false
def isLstC (x : RV) (mh : MH) : Bool := match x with
  | .ref n => (match mh[n]? with
    | some (.lst _) => true
    | _ => false)
  | _ => false
def small62 (i : Int) : Bool := decide (-(2 ^ 62) ≤ i ∧ i < 2 ^ 62)
/-- xs.pop(i) of a cell -/
def popC (x : RV) (ds : List PyData) (mh : MH) : Out RV := match x with
  | .ref n => (match mh[n]?, ds with
    | some (.lst xs), [.int i] => (match (if small62 i then ixD xs.length i else none) with
      | some k => (match xs[k]? with
        | some d => .ok (.dat d) (mh.set n (.lst (xs.eraseIdx k)))
        | none => .stuck)
      | none => .stuck)
    | _, _ => .stuck)
  | _ => .stuck
def partO (b : Bool) (m : MEnv → MH → Out RV) (env : MEnv) (mh : MH) : Out (Option Int) := if b then (m env mh).bind fun y mh => (match y with
  | .dat (.int i) => .ok (some i) mh
  | _ => .stuck) else .ok none mh
/-- a value's test is its truth -/
def tv (v : MEnv → MH → Out RV) : (MEnv → MH → Out RV) × (MEnv → MH → Out Bool) :=
  (v, fun env mh => (v env mh).bind fun x mh => match view mh x with
      | some d => ofT (truD d) mh
      | none => .stuck)
mutual
def evP (C : CallF) : E → (MEnv → MH → Out RV) × (MEnv → MH → Out Bool)
  | .var i => tv (fun env mh => match env[i]? with
    | some (some rv) => .ok rv mh
    | _ => .stuck)
  | .cst d => (fun _ mh => .ok (.dat d) mh, fun _ mh => ofT (truD d) mh)
  | .glb _ d => tv (fun _ mh => .ok (.dat d) mh)
  | .and_ a b => (fun env mh => ((evP C a).1 env mh).bind fun r mh => match r with
    | .dat (.bool true) => (evP C b).1 env mh
    | .dat (.bool false) => .ok (.dat (.bool false)) mh
    | _ => .stuck,
    fun env mh => ((evP C a).2 env mh).bind fun r mh => match r with
    | true => (evP C b).2 env mh
    | false => .ok false mh)
  | .or_ a b => (fun env mh => ((evP C a).1 env mh).bind fun r mh => match r with
    | .dat (.bool false) => (evP C b).1 env mh
    | .dat (.bool true) => .ok (.dat (.bool true)) mh
    | _ => .stuck,
    fun env mh => ((evP C a).2 env mh).bind fun r mh => match r with
    | true => .ok true mh
    | false => (evP C b).2 env mh)
  | .not_ a => (fun env mh => ((evP C a).1 env mh).bind fun x mh => match view mh x with
      | some d => ofB ((truD d).map not) mh
      | none => .stuck,
    fun env mh => ((evP C a).2 env mh).bind fun b mh => .ok (!b) mh)
  | .cmp op a b => (fun env mh => ((evP C a).1 env mh).bind fun x mh => ((evP C b).1 env mh).bind fun y mh =>
      match view mh x, view mh y with
      | some d, some e => ofB (cmpD op d e) mh
      | _, _ => .stuck,
    fun env mh => ((evP C a).1 env mh).bind fun x mh => ((evP C b).1 env mh).bind fun y mh =>
      match view mh x, view mh y with
      | some d, some e => ofT (cmpD op d e) mh
      | _, _ => .stuck)
  | .chain op op' a b c => (fun env mh => ((evP C a).1 env mh).bind fun x mh => ((evP C b).1 env mh).bind fun y mh =>
      match view mh x, view mh y with
      | some d, some e => (match cmpD op d e with
        | some true => ((evP C c).1 env mh).bind fun z mh => (match view mh y, view mh z with
          | some e, some f => ofB (cmpD op' e f) mh
          | _, _ => .stuck)
        | some false => .ok (.dat (.bool false)) mh
        | none => .stuck)
      | _, _ => .stuck,
    fun env mh => ((evP C a).1 env mh).bind fun x mh => ((evP C b).1 env mh).bind fun y mh =>
      match view mh x, view mh y with
      | some d, some e => (match cmpD op d e with
        | some true => ((evP C c).1 env mh).bind fun z mh => (match view mh y, view mh z with
          | some e, some f => ofT (cmpD op' e f) mh
          | _, _ => .stuck)
        | some false => .ok false mh
        | none => .stuck)
      | _, _ => .stuck)
  | .bin op a b => tv (fun env mh => ((evP C a).1 env mh).bind fun x mh => ((evP C b).1 env mh).bind fun y mh =>
      match view mh x, view mh y with
      | some d, some e => ofD (binD op d e) mh
      | _, _ => .stuck)
  | .cat a b => tv (fun env mh => ((evP C a).1 env mh).bind fun x mh => ((evP C b).1 env mh).bind fun y mh =>
      match view mh x, view mh y with
      | some (.list xs), some (.list ys) => if big (xs.length + ys.length) then .ok (.dat (.list (xs ++ ys))) mh else .stuck
      | _, _ => .stuck)
  | .neg a => tv (fun env mh => ((evP C a).1 env mh).bind fun x mh => match x with
      | .dat (.int i) => .ok (.dat (.int (-i))) mh
      | _ => .stuck)
  | .ite c a b => (fun env mh => ((evP C c).2 env mh).bind fun t mh => match t with
      | true => (evP C a).1 env mh
      | false => (evP C b).1 env mh,
    fun env mh => ((evP C c).2 env mh).bind fun t mh => match t with
      | true => (evP C a).2 env mh
      | false => (evP C b).2 env mh)
  | .tup es => tv (fun env mh => (evEs C es env mh).bind fun ds mh => if big ds.length then .ok (.dat (.tuple ds)) mh else .stuck)
  | .lst es => tv (fun env mh => (evEs C es env mh).bind fun ds mh => if big ds.length then .ok (.dat (.list ds)) mh else .stuck)
  | .dsp es => tv (fun env mh => (evEs C es env mh).bind fun ds mh => ofD (dspD ds) mh)
  | .idx a b => tv (fun env mh => ((evP C a).1 env mh).bind fun x mh => ((evP C b).1 env mh).bind fun y mh =>
      match view mh x, view mh y with
      | some d, some e => ofD (idxD d e) mh
      | _, _ => .stuck)
  | .slc lo hi a l h => tv (fun env mh => ((evP C a).1 env mh).bind fun x mh => (partO lo (evP C l).1 env mh).bind fun p mh => (partO hi (evP C h).1 env mh).bind fun q mh =>
      match view mh x with
      | some d => ofD (sliD d p q) mh
      | none => .stuck)
  | .isi a t => tv (fun env mh => ((evP C a).1 env mh).bind fun x mh => match view mh x with
      | some d => .ok (.dat (.bool (tyD t d))) mh
      | none => .stuck)
  | .isx i c => tv (fun env mh => match env[i]? with
    | some (some (.xcp x none)) => ofB (C.sub x c) mh
    | _ => .stuck)
  | .xat i c => tv (fun env mh => match env[i]? with
    | some (some (.xcp x (some d))) => if x = c then .ok (.dat d) mh else .stuck
    | _ => .stuck)
  | .blt b es => tv (fun env mh => (evVs C es env mh).bind fun rs mh => match views mh rs with
      | some ds => ofD (bltD b ds) mh
      | none => .stuck)
  | .mth m o es => tv (fun env mh => ((evP C o).1 env mh).bind fun x mh => if mthTy m (view mh x) then (evEs C es env mh).bind fun ds mh => (match view mh x with
      | some d => ofD (mthD m d ds) mh
      | none => .stuck) else .stuck)
  | .popA o es => tv (fun env mh => ((evP C o).1 env mh).bind fun x mh => if isLstC x mh then (evEs C es env mh).bind fun ds mh => popC x ds mh else .stuck)
  | .call f es => tv (fun env mh => (evVs C es env mh).bind fun rs mh => if rs.all RV.passes then C.call f rs mh else .stuck)
  | .pcall f es => tv (fun env mh => (evVs C es env mh).bind fun rs mh => match views mh rs with
      | some ds => pureCall (rs.all RV.isDat) (C.call f (ds.map .dat) []) mh
      | none => .stuck)
  | .comp elt tg it c own => tv (fun env mh => (evIt C it env mh).bind fun xs mh => if big xs.length then
      noExc ((compL (fun x mh => match bindT tg x (wipeM env own) with
        | some env' => ((evP C c).2 env' mh).bind fun t mh => (match t with
          | true => ((evP C elt).1 env' mh).bind fun r mh => (match r with
            | .dat d => .ok (some d) mh
            | _ => .stuck)
          | false => .ok none mh)
        | none => .stuck) xs mh []).bind fun ds mh => .ok (.dat (.list ds)) mh) else .stuck)
/-- values that are data -/
def evEs (C : CallF) : Es → MEnv → MH → Out (List PyData)
  | .nil, _, mh => .ok [] mh
  | .cons e es, env, mh => ((evP C e).1 env mh).bind fun x mh => match x with
      | .dat d => (evEs C es env mh).bind fun ds mh => .ok (d :: ds) mh
      | _ => .stuck
  | .star _ _, _, _ => .stuck
/-- values -/
def evVs (C : CallF) : Es → MEnv → MH → Out (List RV)
  | .nil, _, mh => .ok [] mh
  | .cons e es, env, mh => ((evP C e).1 env mh).bind fun x mh => (evVs C es env mh).bind fun xs mh => .ok (x :: xs) mh
  | .star _ _, _, _ => .stuck
def evIt (C : CallF) : It → MEnv → MH → Out (List PyData)
  | .of e, env, mh => ((evP C e).1 env mh).bind fun x mh => match x with
      | .dat d => (match itemsD d with
        | some xs => .ok xs mh
        | none => .stuck)
      | .olst xs => .ok xs mh
      | _ => .stuck
  | .rng1 a, env, mh => ((evP C a).1 env mh).bind fun x mh => match x with
      | .dat (.int n) => if decide (-16777216 ≤ n ∧ n ≤ 16777216) then .ok (rngD 0 n.toNat) mh else .stuck
      | _ => .stuck
  | .rng2 a b, env, mh => ((evP C a).1 env mh).bind fun x mh => ((evP C b).1 env mh).bind fun y mh => match x, y with
      | .dat (.int i), .dat (.int j) => if decide (-16777216 ≤ i ∧ i ≤ 16777216 ∧ -16777216 ≤ j ∧ j ≤ 16777216) then .ok (rngD i (j - i).toNat) mh else .stuck
      | _, _ => .stuck
  | .zip2 a b, env, mh => ((evP C a).1 env mh).bind fun x mh => ((evP C b).1 env mh).bind fun y mh => match x, y with
      | .dat d, .dat e => (match seqD d, seqD e with
        | some xs, some ys => .ok (zipD2 xs ys) mh
        | _, _ => .stuck)
      | _, _ => .stuck
  | .zip3 a b c, env, mh => ((evP C a).1 env mh).bind fun x mh => ((evP C b).1 env mh).bind fun y mh => ((evP C c).1 env mh).bind fun z mh => match x, y, z with
      | .dat d, .dat e, .dat f => (match seqD d, seqD e, seqD f with
        | some xs, some ys, some zs => .ok (zipD3 xs ys zs) mh
        | _, _, _ => .stuck)
      | _, _, _ => .stuck
  | .enum a, env, mh => ((evP C a).1 env mh).bind fun x mh => match x with
      | .dat d => (match seqD d with
        | some xs => .ok (enumD 0 xs) mh
        | none => .stuck)
      | _ => .stuck
end
def evE (C : CallF) (e : E) (env : MEnv) (mh : MH) : Out RV := (evP C e).1 env mh
def evT (C : CallF) (e : E) (env : MEnv) (mh : MH) : Out Bool := (evP C e).2 env mh

/-- a statement's end -/
inductive SO where
  | next (env : MEnv) (mh : MH) | ret (rv : RV) (mh : MH) | brk (env : MEnv) (mh : MH) | cont (env : MEnv) (mh : MH) | exc (x : Exn) (env : MEnv) (mh : MH) | stuck
def SO.of {α : Type} (env : MEnv) (k : α → MH → SO) : Out α → SO
  | .ok a mh => k a mh
  | .exc x mh => .exc x env mh
  | .stuck => .stuck
def SO.then (k : MEnv → MH → SO) : SO → SO
  | .next env mh => k env mh
  | o => o
def SO.turn (k : MEnv → MH → SO) : SO → SO
  | .next env mh => k env mh
  | .cont env mh => k env mh
  | .brk env mh => .next env mh
  | o => o
def RV.noX : RV → Bool
  | .xcp _ _ => false
  | _ => true
def noX (env : MEnv) : Bool := env.all fun o => match o with
  | some r => r.noX
  | none => true
/-- the end of a suite: the error's name is gone -/
def SO.unX (k : Nat) : SO → SO
  | .next e m => if noX (e.set k none) then .next (e.set k none) m else .stuck
  | .brk e m => if noX (e.set k none) then .brk (e.set k none) m else .stuck
  | .cont e m => if noX (e.set k none) then .cont (e.set k none) m else .stuck
  | .ret r m => if r.noX then .ret r m else .stuck
  | _ => .stuck
def forL (t : Tg) (body : MEnv → MH → SO) : List PyData → MEnv → MH → SO
  | [], env, mh => .next env mh
  | x :: xs, env, mh => match bindT t x env with
    | some env' => (body env' mh).turn (forL t body xs)
    | none => .stuck
def whileL (c : MEnv → MH → Out Bool) (body : MEnv → MH → SO) : Nat → MEnv → MH → SO
  | 0, _, _ => .stuck
  | n + 1, env, mh => SO.of env (fun b mh => match b with
    | true => (body env mh).turn (whileL c body n)
    | false => .next env mh) (c env mh)
/-- an expression that makes a new list or dict -/
def isFresh : E → Bool
  | .lst _ => true
  | .dsp _ => true
  | .comp _ _ _ _ _ => true
  | .cat _ _ => true
  | .blt .lst _ => true
  | .blt .dct _ => true
  | .blt .sorted _ => true
  | _ => false
def isCall : E → Bool
  | .pcall _ _ => true
  | .call _ _ => true
  | _ => false
/-- a new list or dict, as a value of its own -/
def freshV (e : E) (r : RV) : Option RV := match r with
  | .dat (.list xs) => if isFresh e then some (.olst xs) else none
  | .dat (.dict kvs) => if isFresh e then some (.odct kvs) else none
  | .olst xs => if isCall e then some (.olst xs) else none
  | .odct kvs => if isCall e then some (.odct kvs) else none
  | _ => none
def toCell : RV → Cell
  | .olst xs => .lst xs
  | .odct kvs => .dct kvs
  | _ => .dead
/-- what is walked by a statement: not a list of a name's own -/
def evItF (C : CallF) (it : It) (env : MEnv) (mh : MH) : Out (List PyData) := match it with
  | .of e => ((evP C e).1 env mh).bind fun x mh => match x with
      | .dat d => (match itemsD d with
        | some xs => .ok xs mh
        | none => .stuck)
      | _ => .stuck
  | it => evIt C it env mh
def setN (i : Nat) (rv : RV) (env : MEnv) (mh : MH) : SO := if i < env.length then .next (env.set i (some rv)) mh else .stuck
/-- x[k] = v -/
def putC : PyData → PyData → PyData → Option PyData
  | .list xs, .int k, v => (ixD xs.length k).map fun j => .list (xs.set j v)
  | .dict kvs, k, v => if isKey1 k && kvs.all (fun p => isKey1 p.1) && big (kvs.length + 1) then some (.dict (dput kvs k v)) else none
  | _, _, _ => none
/-- the name's or the cell's list or dict is another one -/
def upR (i : Nat) (f : PyData → Option PyData) (env : MEnv) (mh : MH) : SO := match env[i]? with
  | some (some (.olst xs)) => (match f (.list xs) with
    | some (.list ys) => .next (env.set i (some (.olst ys))) mh
    | _ => .stuck)
  | some (some (.odct kvs)) => (match f (.dict kvs) with
    | some (.dict ys) => .next (env.set i (some (.odct ys))) mh
    | _ => .stuck)
  | some (some (.ref n)) => (match mh[n]? with
    | some (.lst xs) => (match f (.list xs) with
      | some (.list ys) => .next env (mh.set n (.lst ys))
      | _ => .stuck)
    | some (.dct kvs) => (match f (.dict kvs) with
      | some (.dict ys) => .next env (mh.set n (.dct ys))
      | _ => .stuck)
    | _ => .stuck)
  | _ => .stuck
def hasAt (env : MEnv) (i : Nat) : Bool := match env[i]? with
  | some (some _) => true
  | _ => false
/-- the name holds a list that may be written -/
def lstAt (env : MEnv) (mh : MH) (i : Nat) : Bool := match env[i]? with
  | some (some (.olst _)) => true
  | some (some r) => isLstC r mh
  | _ => false
def appD (d : PyData) : PyData → Option PyData
  | .list xs => if big (xs.length + 1) then some (.list (xs ++ [d])) else none
  | _ => none
def frzR : RV → Option RV
  | .dat d => some (.dat d)
  | .ref n => some (.ref n)
  | .olst xs => some (.dat (.list xs))
  | .odct kvs => some (.dat (.dict kvs))
  | .xcp _ _ => none
mutual
def evS (C : CallF) : S → MEnv → MH → SO
  | .expr e, env, mh => SO.of env (fun _ mh => .next env mh) (evE C e env mh)
  | .asg t e, env, mh => SO.of env (fun r mh => match r, t with
      | .dat d, t => (match bindT t d env with
        | some env' => .next env' mh
        | none => .stuck)
      | .ref n, .nm i => setN i (.ref n) env mh
      | _, _ => .stuck) (evE C e env mh)
  | .asgO i e, env, mh => SO.of env (fun r mh => match freshV e r with
      | some r => setN i r env mh
      | none => .stuck) (evE C e env mh)
  | .asgH i e, env, mh => SO.of env (fun r mh => match freshV e r with
      | some r => setN i (.ref mh.length) env (mh ++ [toCell r])
      | none => .stuck) (evE C e env mh)
  | .app i e, env, mh => if lstAt env mh i then SO.of env (fun r mh => match r with
      | .dat d => upR i (appD d) env mh
      | _ => .stuck) (evE C e env mh) else .stuck
  | .setI i k v, env, mh => if hasAt env i then SO.of env (fun r mh => SO.of env (fun q mh => match r, q with
      | .dat d, .dat x => upR i (fun c => putC c x d) env mh
      | _, _ => .stuck) (evE C k env mh)) (evE C v env mh) else .stuck
  | .aug i op e, env, mh => match env[i]? with
    | some (some (.dat (.int a))) => SO.of env (fun r mh => match r with
      | .dat (.int b) => (match op with
        | .Add => .next (env.set i (some (.dat (.int (a + b))))) mh
        | .Sub => .next (env.set i (some (.dat (.int (a - b))))) mh
        | _ => .stuck)
      | _ => .stuck) (evE C e env mh)
    | _ => .stuck
  | .ret e, env, mh => match e with
    | .var i => (match env[i]? with
      | some (some r) => (match frzR r with
        | some r => .ret r mh
        | none => .stuck)
      | _ => .stuck)
    | e => SO.of env (fun r mh => match r with
      | .dat d => .ret (.dat d) mh
      | .ref n => .ret (.ref n) mh
      | _ => .stuck) (evE C e env mh)
  | .retM e, env, mh => match e with
    | .var i => (match env[i]? with
      | some (some (.olst xs)) => .ret (.olst xs) mh
      | some (some (.odct kvs)) => .ret (.odct kvs) mh
      | _ => .stuck)
    | e => SO.of env (fun r mh => match freshV e r with
      | some r => .ret r mh
      | none => .stuck) (evE C e env mh)
  | .retN, _, mh => .ret (.dat .none) mh
  | .if_ c a b, env, mh => SO.of env (fun t mh => match t with
      | true => evSs C a env mh
      | false => evSs C b env mh) (evT C c env mh)
  | .for_ t it body, env, mh => SO.of env (fun xs mh => forL t (fun env mh => evSs C body env mh) xs env mh) (evItF C it env mh)
  | .while_ fuel c body, env, mh => whileL (fun env mh => evT C c env mh) (fun env mh => evSs C body env mh) fuel env mh
  | .brk, env, mh => .brk env mh
  | .cont, env, mh => .cont env mh
  | .pass, env, mh => .next env mh
  | .raise c es, env, mh => SO.of env (fun ds mh => match ds with
      | [] => .exc ⟨c, none⟩ env mh
      | [d] => .exc ⟨c, some d⟩ env mh
      | _ => .stuck) (evEs C es env mh)
  | .try_ body c i suite, env, mh => match evSs C body env mh with
    | .exc x env' mh' => (match C.sub x.c c with
      | some true => (match i with
        | some k => if k < env'.length then (evSs C suite (env'.set k (some (.xcp x.c x.arg))) mh').unX k else .stuck
        | none => (match evSs C suite env' mh' with
          | .exc _ _ _ => .stuck
          | o => o))
      | some false => .exc x env' mh'
      | none => .stuck)
    | o => o
  | .frz i, env, mh => match env[i]? with
    | some (some (.olst xs)) => .next (env.set i (some (.dat (.list xs)))) mh
    | some (some (.odct kvs)) => .next (env.set i (some (.dat (.dict kvs)))) mh
    | _ => .next env mh
  | .nv, _, _ => .stuck
def evSs (C : CallF) : Ss → MEnv → MH → SO
  | .nil, env, mh => .next env mh
  | .cons s r, env, mh => (evS C s env mh).then (fun env mh => evSs C r env mh)
end
/-- a def: how many parameters, how many names, its body -/
structure FDef where
  ps : Nat
  ns : Nat
  body : Ss
def bodyEnd : SO → Out RV
  | .next _ mh => .ok (.dat .none) mh
  | .ret r mh => .ok r mh
  | .exc x _ mh => .exc x mh
  | _ => .stuck
def runF (C : CallF) (d : FDef) (rs : List RV) (mh : MH) : Out RV :=
  if rs.length = d.ps ∧ d.ps ≤ d.ns ∧ rs.all RV.passes = true then bodyEnd (evSs C d.body (rs.map some ++ List.replicate (d.ns - d.ps) none) mh) else .stuck
/-- calls to a depth -/
def callN (P : Nat → Option FDef) (sub : Nat → Nat → Option Bool) : Nat → Nat → List RV → MH → Out RV
  | 0, _, _, _ => .stuck
  | n + 1, f, rs, mh => match P f with
    | some d => runF ⟨callN P sub n, sub⟩ d rs mh
    | none => .stuck
end Mn
end
section
set_option linter.all false
set_option autoImplicit false
set_option maxRecDepth 100000
/-! Mini: how the evaluator's state lies in the abstract heap. -/
namespace Mn
open PySem PySem.Spec PyProof.Rows L2

/-- which addresses never change any more; where the cells lie -/
structure Wd where
  F : Addr → Prop
  cs : List Addr

def keyD : Key → PyData
  | .inl i => .int i
  | .inr x => .str x

/-- the program and the world that the keys' hashes lean on -/
structure Pw where
  P : Program
  w : World
/-- a dict whose keys are tuples: its entries, by the keys, where they stand, the values -/
def TD (g : Pw) (a : Addr) (xs : List (List Key × Addr × Value)) : HO := .ext fun h => xs.length ≤ sizeLine ∧ (a == sysModules) = false ∧ (xs.map (·.1)).Nodup ∧
  ∃ o es ep, h.get? a = some o ∧ o.ExactDict ∧ o.data = .dict es ep ∧ es.toList = xs.map (entryOfKey (tupleKind (mixKind g.P g.w)))
/-- a tuple that is known -/
def TupAt (H : Hp) (a : Addr) (xs : List V) : Prop := ∃ o, H a = some (.frz o (.tup xs)) ∧ o.dict = none
mutual
/-- a value is that datum: what it is made of stands at frozen addresses -/
inductive Dv (g : Pw) (F : Addr → Prop) (H : Hp) : V → PyData → Prop
  | non : Dv g F H .non .none
  | bl (b : Bool) : Dv g F H (.bl b) (.bool b)
  | int (i : Int) : Dv g F H (.int i) (.int i)
  | str (x : Str) : Dv g F H (.str x) (.str x)
  | lst {a : Addr} {xs : List V} {ds : List PyData} : F a → Rd H a (.lst xs) → DvA g F H xs ds → Dv g F H (.ref a) (.list ds)
  | tup {a : Addr} {xs : List V} {ds : List PyData} : F a → TupAt H a xs → DvA g F H xs ds → Dv g F H (.ref a) (.tuple ds)
  | dK {a : Addr} {kvs : List (Key × V)} {ps : List (PyData × PyData)} : F a → Rd H a (.dK kvs) → DvK g F H kvs ps → Dv g F H (.ref a) (.dict ps)
  | dT {a : Addr} {kvs : List (List Key × Addr × Value)} {ps : List (PyData × PyData)} : F a → Rd H a (TD g a kvs) → DvT g F H kvs ps → Dv g F H (.ref a) (.dict ps)
inductive DvA (g : Pw) (F : Addr → Prop) (H : Hp) : List V → List PyData → Prop
  | nil : DvA g F H [] []
  | cons {v : V} {vs : List V} {d : PyData} {ds : List PyData} : Dv g F H v d → DvA g F H vs ds → DvA g F H (v :: vs) (d :: ds)
inductive DvK (g : Pw) (F : Addr → Prop) (H : Hp) : List (Key × V) → List (PyData × PyData) → Prop
  | nil : DvK g F H [] []
  | cons {k : Key} {v : V} {vs : List (Key × V)} {d : PyData} {ds : List (PyData × PyData)} : Dv g F H v d → DvK g F H vs ds → DvK g F H ((k, v) :: vs) ((keyD k, d) :: ds)
inductive DvT (g : Pw) (F : Addr → Prop) (H : Hp) : List (List Key × Addr × Value) → List (PyData × PyData) → Prop
  | nil : DvT g F H [] []
  | cons {k : List Key} {b : Addr} {u : Value} {v : V} {vs : List (List Key × Addr × Value)} {d : PyData} {ds : List (PyData × PyData)} : F b → TupAt H b (k.map kV) → RelV v u → Dv g F H v d → DvT g F H vs ds →
      DvT g F H ((k, b, u) :: vs) ((.tuple (k.map keyD), d) :: ds)
end

mutual
theorem Dv.mono {g : Pw} {F F' : Addr → Prop} {H H' : Hp} (hF : ∀ a, F a → F' a) (hH : ∀ a o, F a → H a = some o → H' a = some o) : ∀ {v : V} {d : PyData}, Dv g F H v d → Dv g F' H' v d
  | _, _, .non => .non
  | _, _, .bl b => .bl b
  | _, _, .int i => .int i
  | _, _, .str x => .str x
  | _, _, .lst f r t => .lst (hF _ f) (rd_mono (fun o e => hH _ o f e) r) (DvA.mono hF hH t)
  | _, _, .tup f r t => .tup (hF _ f) (let ⟨o, e, c⟩ := r; ⟨o, hH _ _ f e, c⟩) (DvA.mono hF hH t)
  | _, _, .dK f r t => .dK (hF _ f) (rd_mono (fun o e => hH _ o f e) r) (DvK.mono hF hH t)
  | _, _, .dT f r t => .dT (hF _ f) (rd_mono (fun o e => hH _ o f e) r) (DvT.mono hF hH t)
where rd_mono {H H' : Hp} {a : Addr} {u : HO} (k : ∀ o, H a = some o → H' a = some o) : Rd H a u → Rd H' a u
  | .inl e => .inl (k _ e)
  | .inr ⟨o, e⟩ => .inr ⟨o, k _ e⟩
theorem DvA.mono {g : Pw} {F F' : Addr → Prop} {H H' : Hp} (hF : ∀ a, F a → F' a) (hH : ∀ a o, F a → H a = some o → H' a = some o) : ∀ {v : List V} {d : List PyData}, DvA g F H v d → DvA g F' H' v d
  | _, _, .nil => .nil
  | _, _, .cons r t => .cons (Dv.mono hF hH r) (DvA.mono hF hH t)
theorem DvK.mono {g : Pw} {F F' : Addr → Prop} {H H' : Hp} (hF : ∀ a, F a → F' a) (hH : ∀ a o, F a → H a = some o → H' a = some o) : ∀ {v : List (Key × V)} {d : List (PyData × PyData)}, DvK g F H v d → DvK g F' H' v d
  | _, _, .nil => .nil
  | _, _, .cons r t => .cons (Dv.mono hF hH r) (DvK.mono hF hH t)
theorem DvT.mono {g : Pw} {F F' : Addr → Prop} {H H' : Hp} (hF : ∀ a, F a → F' a) (hH : ∀ a o, F a → H a = some o → H' a = some o) : ∀ {v : List (List Key × Addr × Value)} {d : List (PyData × PyData)}, DvT g F H v d → DvT g F' H' v d
  | _, _, .nil => .nil
  | _, _, .cons f r q x t => .cons (hF _ f) (let ⟨o, e, c⟩ := r; ⟨o, hH _ _ f e, c⟩) q (Dv.mono hF hH x) (DvT.mono hF hH t)
end

/-! ### lists of data -/
section
variable {g : Pw} {F : Addr → Prop} {H : Hp}
theorem DvA.length : ∀ {vs : List V} {ds : List PyData}, DvA g F H vs ds → vs.length = ds.length
  | _, _, .nil => rfl
  | _, _, .cons _ t => by rw [List.length_cons, List.length_cons, t.length]
theorem DvA.append : ∀ {xs ys : List V} {ds es : List PyData}, DvA g F H xs ds → DvA g F H ys es → DvA g F H (xs ++ ys) (ds ++ es)
  | _, _, _, _, .nil, s => s
  | _, _, _, _, .cons r t, s => .cons r (t.append s)
theorem DvA.get : ∀ {vs : List V} {ds : List PyData} {i : Nat} {d : PyData}, DvA g F H vs ds → ds[i]? = some d → ∃ v, vs[i]? = some v ∧ Dv g F H v d
  | _, _, _, _, .nil, e => by simp at e
  | _, _, 0, _, .cons r _, e => by simp at e; subst e; exact ⟨_, rfl, r⟩
  | _, _, i + 1, d, .cons _ t, e => by
    obtain ⟨v, h1, h2⟩ := DvA.get (i := i) (d := d) t (by simpa using e)
    exact ⟨v, by simpa using h1, h2⟩
theorem DvA.set {v : V} {d : PyData} (r : Dv g F H v d) : ∀ {vs : List V} {ds : List PyData} (i : Nat), DvA g F H vs ds → DvA g F H (vs.set i v) (ds.set i d)
  | _, _, _, .nil => .nil
  | _, _, 0, .cons _ t => .cons r t
  | _, _, i + 1, .cons q t => .cons q (DvA.set r i t)
theorem DvA.take : ∀ {vs : List V} {ds : List PyData} (n : Nat), DvA g F H vs ds → DvA g F H (vs.take n) (ds.take n)
  | _, _, 0, _ => .nil
  | _, _, _ + 1, .nil => .nil
  | _, _, n + 1, .cons r t => .cons r (DvA.take n t)
theorem DvA.drop : ∀ {vs : List V} {ds : List PyData} (n : Nat), DvA g F H vs ds → DvA g F H (vs.drop n) (ds.drop n)
  | _, _, 0, r => r
  | _, _, _ + 1, .nil => .nil
  | _, _, n + 1, .cons _ t => DvA.drop n t
theorem DvA.eraseIdx : ∀ {vs : List V} {ds : List PyData} (i : Nat), DvA g F H vs ds → DvA g F H (vs.eraseIdx i) (ds.eraseIdx i)
  | _, _, _, .nil => .nil
  | _, _, 0, .cons _ t => t
  | _, _, i + 1, .cons r t => .cons r (DvA.eraseIdx i t)
theorem DvK.length : ∀ {vs : List (Key × V)} {ds : List (PyData × PyData)}, DvK g F H vs ds → vs.length = ds.length
  | _, _, .nil => rfl
  | _, _, .cons _ t => by rw [List.length_cons, List.length_cons, t.length]
theorem DvT.length : ∀ {vs : List (List Key × Addr × Value)} {ds : List (PyData × PyData)}, DvT g F H vs ds → vs.length = ds.length
  | _, _, .nil => rfl
  | _, _, .cons _ _ _ _ t => by rw [List.length_cons, List.length_cons, t.length]
theorem DvA.tail_ref {a : Addr} : True := trivial
end

/-! ### what may be read: the outermost list or dict need not be frozen -/
def WOk (g : Pw) (F : Addr → Prop) (H : Hp) (v : V) (d : PyData) : Prop :=
  Dv g F H v d ∨ (∃ a xs ds, v = .ref a ∧ Rd H a (.lst xs) ∧ DvA g F H xs ds ∧ d = .list ds) ∨
    (∃ a kvs ps, v = .ref a ∧ Rd H a (.dK kvs) ∧ DvK g F H kvs ps ∧ d = .dict ps) ∨ ∃ a kvs ps, v = .ref a ∧ Rd H a (TD g a kvs) ∧ DvT g F H kvs ps ∧ d = .dict ps
section
variable {g : Pw} {F : Addr → Prop} {H : Hp} {v : V}
theorem WOk.str {s : Str} (h : WOk g F H v (.str s)) : v = .str s := by
  rcases h with h | ⟨_, _, _, _, _, _, e⟩ | ⟨_, _, _, _, _, _, e⟩ | ⟨_, _, _, _, _, _, e⟩
  · cases h; rfl
  all_goals cases e
theorem WOk.int {i : Int} (h : WOk g F H v (.int i)) : v = .int i := by
  rcases h with h | ⟨_, _, _, _, _, _, e⟩ | ⟨_, _, _, _, _, _, e⟩ | ⟨_, _, _, _, _, _, e⟩
  · cases h; rfl
  all_goals cases e
theorem WOk.bool {b : Bool} (h : WOk g F H v (.bool b)) : v = .bl b := by
  rcases h with h | ⟨_, _, _, _, _, _, e⟩ | ⟨_, _, _, _, _, _, e⟩ | ⟨_, _, _, _, _, _, e⟩
  · cases h; rfl
  all_goals cases e
theorem WOk.none (h : WOk g F H v .none) : v = .non := by
  rcases h with h | ⟨_, _, _, _, _, _, e⟩ | ⟨_, _, _, _, _, _, e⟩ | ⟨_, _, _, _, _, _, e⟩
  · cases h; rfl
  all_goals cases e
theorem WOk.list {ds : List PyData} (h : WOk g F H v (.list ds)) : ∃ a xs, v = .ref a ∧ Rd H a (.lst xs) ∧ DvA g F H xs ds := by
  rcases h with h | ⟨a, xs, ds', e1, e2, e3, e⟩ | ⟨_, _, _, _, _, _, e⟩ | ⟨_, _, _, _, _, _, e⟩
  · cases h with
    | lst f r t => exact ⟨_, _, rfl, r, t⟩
  · cases e; exact ⟨a, xs, e1, e2, e3⟩
  all_goals cases e
theorem WOk.tuple {ds : List PyData} (h : WOk g F H v (.tuple ds)) : ∃ a xs, v = .ref a ∧ F a ∧ TupAt H a xs ∧ DvA g F H xs ds := by
  rcases h with h | ⟨_, _, _, _, _, _, e⟩ | ⟨_, _, _, _, _, _, e⟩ | ⟨_, _, _, _, _, _, e⟩
  · cases h with
    | tup f r t => exact ⟨_, _, rfl, f, r, t⟩
  all_goals cases e
theorem WOk.dict {ps : List (PyData × PyData)} (h : WOk g F H v (.dict ps)) : ∃ a, v = .ref a ∧ ((∃ kvs, Rd H a (.dK kvs) ∧ DvK g F H kvs ps) ∨ ∃ kvs, Rd H a (TD g a kvs) ∧ DvT g F H kvs ps) := by
  rcases h with h | ⟨_, _, _, _, _, _, e⟩ | ⟨a, kvs, ps', e1, e2, e3, e⟩ | ⟨a, kvs, ps', e1, e2, e3, e⟩
  · cases h with
    | dK f r t => exact ⟨_, rfl, .inl ⟨_, r, t⟩⟩
    | dT f r t => exact ⟨_, rfl, .inr ⟨_, r, t⟩⟩
  · cases e
  · cases e; exact ⟨a, e1, .inl ⟨kvs, e2, e3⟩⟩
  · cases e; exact ⟨a, e1, .inr ⟨kvs, e2, e3⟩⟩
end

mutual
theorem Dv.dp {K : PySem.W.Frag} {g : Pw} {F : Addr → Prop} {H : Hp} : ∀ {v : V} {d : PyData}, Dv g F H v d → d.plain = true → Dp K H v d
  | _, _, .non, _ => .non
  | _, _, .bl b, _ => .bl b
  | _, _, .int i, _ => .int i
  | _, _, .str x, _ => .str x
  | _, _, .lst _ r t, h => .lst (.inl r) (DvA.dp t (by simpa only [PyData.plain] using h))
  | _, _, .tup _ r t, h => .tup (.inl (.inr (let ⟨o, e, _⟩ := r; ⟨o, e⟩))) (DvA.dp t (by simpa only [PyData.plain] using h))
  | _, _, .dK _ _ _, h => by simp [PyData.plain] at h
  | _, _, .dT _ _ _, h => by simp [PyData.plain] at h
theorem DvA.dp {K : PySem.W.Frag} {g : Pw} {F : Addr → Prop} {H : Hp} : ∀ {v : List V} {d : List PyData}, DvA g F H v d → PyData.plainAll d = true → DpAll K H v d
  | _, _, .nil, _ => .nil
  | _, _, .cons r t, h => by
    simp only [PyData.plainAll, Bool.and_eq_true] at h
    exact .cons (Dv.dp r h.1) (DvA.dp t h.2)
end
theorem WOk.dp {K : PySem.W.Frag} {g : Pw} {F : Addr → Prop} {H : Hp} {v : V} {d : PyData} (h : WOk g F H v d) (p : d.plain = true) : Dp K H v d := by
  rcases h with h | ⟨a, xs, ds, e1, e2, e3, e⟩ | ⟨_, _, _, _, _, _, e⟩ | ⟨_, _, _, _, _, _, e⟩
  · exact h.dp p
  · subst e1 e
    exact .lst (.inl e2) (e3.dp (by simpa only [PyData.plain] using p))
  · subst e; simp [PyData.plain] at p
  · subst e; simp [PyData.plain] at p

/-! ### names, cells, exceptions -/
/-- the static part: the classes' addresses, the fields' names, the exceptions' fields -/
structure Stat where
  g : Pw
  ca : Nat → Addr
  fnm : Nat → Str
  xfn : Nat → Str
  ex : Option (Addr × Value × Option Addr) := none

def XOk (T : Stat) (F : Addr → Prop) (H : Hp) (cls : Value) (d : Option Addr) (c : Nat) (arg : Option PyData) : Prop :=
  cls = .ref (T.ca c) ∧ match arg with
    | none => d = none
    | some x => ∃ p v, d = some p ∧ F p ∧ H p = some (.xd [(T.xfn c, v)]) ∧ Dv T.g F H v x
/-- a name's value in a state of its own -/
def RvOk (T : Stat) (w : Wd) (H : Hp) (v : V) : RV → Prop
  | .dat d => Dv T.g w.F H v d
  | .ref n => ∃ a, v = .ref a ∧ w.cs[n]? = some a
  | .olst ds => ∃ a xs, v = .ref a ∧ H a = some (.lst xs) ∧ DvA T.g w.F H xs ds ∧ a ∉ w.cs ∧ ¬ w.F a
  | .odct ps => ∃ a, v = .ref a ∧ ((∃ kvs, H a = some (.dK kvs) ∧ DvK T.g w.F H kvs ps) ∨ ∃ kvs, H a = some (TD T.g a kvs) ∧ DvT T.g w.F H kvs ps) ∧ a ∉ w.cs ∧ ¬ w.F a
  | .xcp c arg => ∃ a cls d, v = .ref a ∧ T.ex = some (a, cls, d) ∧ XOk T w.F H cls d c arg
inductive FsOk (T : Stat) (w : Wd) (H : Hp) : List (Str × V) → List (Nat × RV) → Prop
  | nil : FsOk T w H [] []
  | dat {k : Nat} {v : V} {d : PyData} {fs : List (Str × V)} {gs : List (Nat × RV)} : Dv T.g w.F H v d → FsOk T w H fs gs → FsOk T w H ((T.fnm k, v) :: fs) ((k, .dat d) :: gs)
  | ref {k n : Nat} {a : Addr} {fs : List (Str × V)} {gs : List (Nat × RV)} : w.cs[n]? = some a → FsOk T w H fs gs → FsOk T w H ((T.fnm k, .ref a) :: fs) ((k, .ref n) :: gs)
def CellOk (T : Stat) (w : Wd) (H : Hp) (a : Addr) : Cell → Prop
  | .lst ds => ∃ xs, H a = some (.lst xs) ∧ DvA T.g w.F H xs ds
  | .dct ps => (∃ kvs, H a = some (.dK kvs) ∧ DvK T.g w.F H kvs ps) ∨ ∃ kvs, H a = some (TD T.g a kvs) ∧ DvT T.g w.F H kvs ps
  | .ins c fs => ∃ dx hfs, H a = some (.ins (T.ca c) dx hfs) ∧ FsOk T w H hfs fs ∧ hfs.length < 1000
  | .dead => True
def Cell.alive : Cell → Bool
  | .dead => false
  | _ => true
def RV.own : RV → Bool
  | .olst _ => true
  | .odct _ => true
  | _ => false
/-- the heap of cells -/
structure RelH (T : Stat) (w : Wd) (mh : MH) (H : Hp) : Prop where
  len : mh.length = w.cs.length
  nd : w.cs.Nodup
  thF : ∀ a, w.F a → ∃ o, H a = some o
  thC : ∀ a ∈ w.cs, ∃ o, H a = some o
  ok : ∀ (n : Nat) (c : Cell) (a : Addr), mh[n]? = some c → w.cs[n]? = some a → CellOk T w H a c
  live : ∀ (n : Nat) (c : Cell) (a : Addr), mh[n]? = some c → w.cs[n]? = some a → c.alive = true → ¬ w.F a
/-- from one state to a later one -/
structure Ext (w : Wd) (H : Hp) (w' : Wd) (H' : Hp) : Prop where
  F : ∀ a, w.F a → w'.F a
  F' : ∀ a, w'.F a → w.F a ∨ H a = none ∨ a ∈ w.cs
  cs : ∃ t, w'.cs = w.cs ++ t
  cs' : ∀ a ∈ w'.cs, a ∈ w.cs ∨ H a = none
  H : ∀ a o, H a = some o → (a ∈ w.cs → w.F a) → H' a = some o
theorem Ext.refl {w : Wd} {H : Hp} : Ext w H w H := ⟨fun _ h => h, fun _ h => .inl h, ⟨[], by simp⟩, fun _ h => .inl h, fun _ _ h _ => h⟩
theorem Ext.there {w w' : Wd} {H H' : Hp} (e : Ext w H w' H') {a : Addr} {o : HO} (h : H a = some o) (hc : a ∉ w.cs) : H' a = some o := e.H a o h fun z => absurd z hc
theorem Ext.trans {w w1 w2 : Wd} {H H1 H2 : Hp} (a : Ext w H w1 H1) (b : Ext w1 H1 w2 H2) : Ext w H w2 H2 where
  F := fun x h => b.F x (a.F x h)
  F' := fun x h => by
    rcases b.F' x h with h | h | h
    · exact a.F' x h
    · cases e : H x with
      | none => exact .inr (.inl rfl)
      | some o =>
        by_cases hx : x ∈ w.cs
        · exact .inr (.inr hx)
        · have := a.there e hx
          rw [h] at this; cases this
    · rcases a.cs' x h with h | h
      · exact .inr (.inr h)
      · exact .inr (.inl h)
  cs := by
    obtain ⟨t, e⟩ := a.cs
    obtain ⟨u, f⟩ := b.cs
    exact ⟨t ++ u, by rw [f, e, List.append_assoc]⟩
  cs' := fun x h => by
    rcases b.cs' x h with h | h
    · exact a.cs' x h
    · cases e : H x with
      | none => exact .inr rfl
      | some o =>
        by_cases hx : x ∈ w.cs
        · exact .inl hx
        · have := a.there e hx
          rw [h] at this; cases this
  H := fun x o h hf => b.H x o (a.H x o h hf) fun hx => by
    rcases a.cs' x hx with z | z
    · exact a.F x (hf z)
    · rw [h] at z; cases z
/-- the names: slots of the def and what they hold -/
structure RelE (T : Stat) (w : Wd) (env : MEnv) (σ : L2.St) (H : Hp) : Prop where
  len : σ.length = env.length
  ok : ∀ (i : Nat) (rv : RV), env[i]? = some (some rv) → ∃ v, σ[i]? = some (some v) ∧ RvOk T w H v rv
  own : ∀ (i j : Nat) (rv rv' : RV) (a : Addr), i ≠ j → env[i]? = some (some rv) → env[j]? = some (some rv') → rv.own = true → rv'.own = true → σ[i]? = some (some (.ref a)) → σ[j]? = some (some (.ref a)) → False
/-- where the def was entered -/
structure Base where
  w : Wd
  H : Hp
structure Rel (T : Stat) (B : Base) (w : Wd) (env : MEnv) (mh : MH) (σ : L2.St) (H : Hp) : Prop where
  h : RelH T w mh H
  e : RelE T w env σ H
  x : Ext B.w B.H w H
  own : ∀ (i : Nat) (rv : RV) (a : Addr), env[i]? = some (some rv) → rv.own = true → σ[i]? = some (some (.ref a)) → B.H a = none

section
variable {T : Stat} {w w' : Wd} {H H' : Hp} {v : V}
theorem Ext.dv {g : Pw} (x : Ext w H w' H') {d : PyData} (h : Dv g w.F H v d) : Dv g w'.F H' v d := h.mono x.F fun a o f e => x.H a o e fun _ => f
theorem Ext.dvA {g : Pw} (x : Ext w H w' H') {vs : List V} {d : List PyData} (h : DvA g w.F H vs d) : DvA g w'.F H' vs d := h.mono x.F fun a o f e => x.H a o e fun _ => f
theorem Ext.dvK {g : Pw} (x : Ext w H w' H') {vs : List (Key × V)} {d : List (PyData × PyData)} (h : DvK g w.F H vs d) : DvK g w'.F H' vs d := h.mono x.F fun a o f e => x.H a o e fun _ => f
theorem Ext.dvT {g : Pw} (x : Ext w H w' H') {vs : List (List Key × Addr × Value)} {d : List (PyData × PyData)} (h : DvT g w.F H vs d) : DvT g w'.F H' vs d := h.mono x.F fun a o f e => x.H a o e fun _ => f
theorem Ext.cell (x : Ext w H w' H') {n : Nat} {a : Addr} (h : w.cs[n]? = some a) : w'.cs[n]? = some a := by
  obtain ⟨t, e⟩ := x.cs
  rw [e, List.getElem?_append_left (List.getElem?_eq_some_iff.mp h).1]
  exact h
theorem Ext.nc (x : Ext w H w' H') {a : Addr} {o : HO} (h : H a = some o) (hc : a ∉ w.cs) : a ∉ w'.cs := fun z => by
  rcases x.cs' a z with z | z
  · exact hc z
  · rw [h] at z; cases z
theorem Ext.nF (x : Ext w H w' H') {a : Addr} {o : HO} (h : H a = some o) (hc : a ∉ w.cs) (hF : ¬ w.F a) : ¬ w'.F a := fun z => by
  rcases x.F' a z with z | z | z
  · exact hF z
  · rw [h] at z; cases z
  · exact hc z
theorem Ext.xok (x : Ext w H w' H') {cls : Value} {d : Option Addr} {c : Nat} {arg : Option PyData} (h : XOk T w.F H cls d c arg) : XOk T w'.F H' cls d c arg := by
  obtain ⟨h1, h2⟩ := h
  refine ⟨h1, ?_⟩
  cases arg with
  | none => exact h2
  | some y =>
    obtain ⟨p, v, e, f, hp, r⟩ := h2
    exact ⟨p, v, e, x.F p f, x.H p _ hp fun _ => f, x.dv r⟩
theorem Ext.rv (x : Ext w H w' H') {rv : RV} (h : RvOk T w H v rv) : RvOk T w' H' v rv := by
  cases rv with
  | dat d => exact x.dv h
  | ref n =>
    obtain ⟨a, e, h⟩ := h
    exact ⟨a, e, x.cell h⟩
  | olst ds =>
    obtain ⟨a, xs, e, h1, h2, h3, h4⟩ := h
    exact ⟨a, xs, e, x.there h1 h3, x.dvA h2, x.nc h1 h3, x.nF h1 h3 h4⟩
  | odct ps =>
    obtain ⟨a, e, h1, h3, h4⟩ := h
    rcases h1 with ⟨kvs, h1, h2⟩ | ⟨kvs, h1, h2⟩
    · exact ⟨a, e, .inl ⟨kvs, x.there h1 h3, x.dvK h2⟩, x.nc h1 h3, x.nF h1 h3 h4⟩
    · exact ⟨a, e, .inr ⟨kvs, x.there h1 h3, x.dvT h2⟩, x.nc h1 h3, x.nF h1 h3 h4⟩
  | xcp c arg =>
    obtain ⟨a, cls, d, e, e2, h⟩ := h
    exact ⟨a, cls, d, e, e2, x.xok h⟩
theorem Ext.fs (x : Ext w H w' H') : ∀ {fs : List (Str × V)} {gs : List (Nat × RV)}, FsOk T w H fs gs → FsOk T w' H' fs gs
  | _, _, .nil => .nil
  | _, _, .dat r t => .dat (x.dv r) (x.fs t)
  | _, _, .ref r t => .ref (x.cell r) (x.fs t)
theorem RelE.ext {env : MEnv} {σ : L2.St} (x : Ext w H w' H') (r : RelE T w env σ H) : RelE T w' env σ H' where
  len := r.len
  ok := fun i rv h => let ⟨v, e, q⟩ := r.ok i rv h; ⟨v, e, x.rv q⟩
  own := r.own
/-- what a value reads as -/
theorem RvOk.view {mh : MH} {rv : RV} {d : PyData} (R : RelH T w mh H) (h : RvOk T w H v rv) (e : view mh rv = some d) : WOk T.g w.F H v d := by
  cases rv with
  | dat d' => cases (Option.some.inj e); exact .inl h
  | ref n =>
    obtain ⟨a, rfl, hc⟩ := h
    unfold Mn.view at e
    cases hm : mh[n]? with
    | none => simp [hm] at e
    | some c =>
      have ok := R.ok n c a hm hc
      cases c with
      | lst ds =>
        simp [hm] at e; subst e
        obtain ⟨xs, h1, h2⟩ := ok
        exact .inr (.inl ⟨a, xs, ds, rfl, .inl h1, h2, rfl⟩)
      | dct ps =>
        simp [hm] at e; subst e
        rcases ok with ⟨kvs, h1, h2⟩ | ⟨kvs, h1, h2⟩
        · exact .inr (.inr (.inl ⟨a, kvs, ps, rfl, .inl h1, h2, rfl⟩))
        · exact .inr (.inr (.inr ⟨a, kvs, ps, rfl, .inl h1, h2, rfl⟩))
      | ins c fs => simp [hm] at e
      | dead => simp [hm] at e
  | olst ds =>
    cases (Option.some.inj e)
    obtain ⟨a, xs, e1, h1, h2, _, _⟩ := h
    exact .inr (.inl ⟨a, xs, ds, e1, .inl h1, h2, rfl⟩)
  | odct ps =>
    cases (Option.some.inj e)
    obtain ⟨a, e1, h1, _, _⟩ := h
    rcases h1 with ⟨kvs, h1, h2⟩ | ⟨kvs, h1, h2⟩
    · exact .inr (.inr (.inl ⟨a, kvs, ps, e1, .inl h1, h2, rfl⟩))
    · exact .inr (.inr (.inr ⟨a, kvs, ps, e1, .inl h1, h2, rfl⟩))
  | xcp c arg => cases e

/-! ### a new frozen object -/
def Wd.add (w : Wd) (p : Addr) : Wd := ⟨fun a => w.F a ∨ a = p, w.cs⟩
theorem Ext.alloc {p : Addr} {o : HO} (hp : H p = none) : Ext w H (w.add p) (upd H p o) where
  F := fun _ h => .inl h
  F' := fun a h => by
    rcases h with h | h
    · exact .inl h
    · subst h; exact .inr (.inl hp)
  cs := ⟨[], by simp [Wd.add]⟩
  cs' := fun _ h => .inl h
  H := fun a o' h _ => by rw [upd_ne (ne_of_none h hp)]; exact h
/-- .. that is not tracked as frozen -/
theorem Ext.lay {p : Addr} {o : HO} (hp : H p = none) : Ext w H w (upd H p o) where
  F := fun _ h => h
  F' := fun _ h => .inl h
  cs := ⟨[], by simp⟩
  cs' := fun _ h => .inl h
  H := fun a o' h _ => by rw [upd_ne (ne_of_none h hp)]; exact h
theorem CellOk.ext {a : Addr} {c : Cell} (x : Ext w H w' H') (k : ∀ o, H a = some o → H' a = some o) (h : CellOk T w H a c) : CellOk T w' H' a c := by
  cases c with
  | lst ds =>
    obtain ⟨xs, h1, h2⟩ := h
    exact ⟨xs, k _ h1, x.dvA h2⟩
  | dct ps =>
    rcases h with ⟨kvs, h1, h2⟩ | ⟨kvs, h1, h2⟩
    · exact .inl ⟨kvs, k _ h1, x.dvK h2⟩
    · exact .inr ⟨kvs, k _ h1, x.dvT h2⟩
  | ins c fs =>
    obtain ⟨dx, hfs, h1, h2, h3⟩ := h
    exact ⟨dx, hfs, k _ h1, x.fs h2, h3⟩
  | dead => trivial
theorem RelH.alloc {mh : MH} {p : Addr} {o : HO} (R : RelH T w mh H) (hp : H p = none) : RelH T (w.add p) mh (upd H p o) where
  len := R.len
  nd := R.nd
  thF := fun a h => by
    by_cases e : a = p
    · subst e; exact ⟨o, upd_same⟩
    · rcases h with h | h
      · obtain ⟨o', q⟩ := R.thF a h
        exact ⟨o', by rw [upd_ne e]; exact q⟩
      · exact absurd h e
  thC := fun a h => by
    obtain ⟨o', q⟩ := R.thC a h
    exact ⟨o', by rw [upd_ne (ne_of_none q hp)]; exact q⟩
  ok := fun n c a h1 h2 => (R.ok n c a h1 h2).ext (Ext.alloc hp) fun o' q => by rw [upd_ne (ne_of_none q hp)]; exact q
  live := fun n c a h1 h2 h3 h => by
    rcases h with h | h
    · exact R.live n c a h1 h2 h3 h
    · subst h
      obtain ⟨o', q⟩ := R.thC a (List.mem_of_getElem? h2)
      rw [hp] at q; cases q
theorem RelH.lay {mh : MH} {p : Addr} {o : HO} (R : RelH T w mh H) (hp : H p = none) : RelH T w mh (upd H p o) where
  len := R.len
  nd := R.nd
  thF := fun a h => by
    obtain ⟨o', q⟩ := R.thF a h
    exact ⟨o', by rw [upd_ne (ne_of_none q hp)]; exact q⟩
  thC := fun a h => by
    obtain ⟨o', q⟩ := R.thC a h
    exact ⟨o', by rw [upd_ne (ne_of_none q hp)]; exact q⟩
  ok := fun n c a h1 h2 => (R.ok n c a h1 h2).ext (Ext.lay hp) fun o' q => by rw [upd_ne (ne_of_none q hp)]; exact q
  live := R.live
theorem Rel.ext {B : Base} {env : MEnv} {mh mh' : MH} {σ : L2.St} (R : Rel T B w env mh σ H) (x : Ext w H w' H') (h : RelH T w' mh' H') : Rel T B w' env mh' σ H' where
  h := h
  e := R.e.ext x
  x := R.x.trans x
  own := R.own
theorem Rel.alloc {B : Base} {env : MEnv} {mh : MH} {σ : L2.St} {p : Addr} {o : HO} (R : Rel T B w env mh σ H) (hp : H p = none) : Rel T B (w.add p) env mh σ (upd H p o) :=
  R.ext (Ext.alloc hp) (R.h.alloc hp)
theorem Rel.lay {B : Base} {env : MEnv} {mh : MH} {σ : L2.St} {p : Addr} {o : HO} (R : Rel T B w env mh σ H) (hp : H p = none) : Rel T B w env mh σ (upd H p o) :=
  R.ext (Ext.lay hp) (R.h.lay hp)
theorem ne_F {F : Addr → Prop} {a b : Addr} (h : F b) (n : ¬ F a) : b ≠ a := fun e => n (by rw [← e]; exact h)
/-- a thing that is neither a cell nor frozen is changed -/
theorem Ext.over {a : Addr} {o : HO} (x : Ext w H w' H') (hn : H a = none) : Ext w H w' (upd H' a o) where
  F := x.F
  F' := x.F'
  cs := x.cs
  cs' := x.cs'
  H := fun b o' h k => by rw [upd_ne (ne_of_none h hn)]; exact x.H b o' h k
theorem Dv.over {g : Pw} {F : Addr → Prop} {a : Addr} {o : HO} {d : PyData} (h : Dv g F H v d) (hF : ¬ F a) : Dv g F (upd H a o) v d := h.mono (fun _ h => h) fun b u f e => by rw [upd_ne (ne_F f hF)]; exact e
theorem DvA.over {g : Pw} {F : Addr → Prop} {a : Addr} {o : HO} {vs : List V} {d : List PyData} (h : DvA g F H vs d) (hF : ¬ F a) : DvA g F (upd H a o) vs d := h.mono (fun _ h => h) fun b u f e => by rw [upd_ne (ne_F f hF)]; exact e
theorem DvK.over {g : Pw} {F : Addr → Prop} {a : Addr} {o : HO} {vs : List (Key × V)} {d : List (PyData × PyData)} (h : DvK g F H vs d) (hF : ¬ F a) : DvK g F (upd H a o) vs d := h.mono (fun _ h => h) fun b u f e => by rw [upd_ne (ne_F f hF)]; exact e
theorem DvT.over {g : Pw} {F : Addr → Prop} {a : Addr} {o : HO} {vs : List (List Key × Addr × Value)} {d : List (PyData × PyData)} (h : DvT g F H vs d) (hF : ¬ F a) : DvT g F (upd H a o) vs d := h.mono (fun _ h => h) fun b u f e => by rw [upd_ne (ne_F f hF)]; exact e
theorem FsOk.over {a : Addr} {o : HO} (hF : ¬ w.F a) : ∀ {fs : List (Str × V)} {gs : List (Nat × RV)}, FsOk T w H fs gs → FsOk T w (upd H a o) fs gs
  | _, _, .nil => .nil
  | _, _, .dat r t => .dat (r.over hF) (t.over hF)
  | _, _, .ref r t => .ref r (t.over hF)
theorem CellOk.over {a b : Addr} {o : HO} {c : Cell} (h : CellOk T w H b c) (hF : ¬ w.F a) (hb : b ≠ a) : CellOk T w (upd H a o) b c := by
  cases c with
  | lst ds => obtain ⟨xs, h1, h2⟩ := h; exact ⟨xs, by rw [upd_ne hb]; exact h1, h2.over hF⟩
  | dct ps =>
    rcases h with ⟨kvs, h1, h2⟩ | ⟨kvs, h1, h2⟩
    · exact .inl ⟨kvs, by rw [upd_ne hb]; exact h1, h2.over hF⟩
    · exact .inr ⟨kvs, by rw [upd_ne hb]; exact h1, h2.over hF⟩
  | ins c fs => obtain ⟨dx, hfs, h1, h2, h3⟩ := h; exact ⟨dx, hfs, by rw [upd_ne hb]; exact h1, h2.over hF, h3⟩
  | dead => trivial
theorem RelH.over {mh : MH} {a : Addr} {o : HO} (R : RelH T w mh H) (hc : a ∉ w.cs) (hF : ¬ w.F a) : RelH T w mh (upd H a o) where
  len := R.len
  nd := R.nd
  thF := fun b h => by
    obtain ⟨o', q⟩ := R.thF b h
    exact ⟨o', by rw [upd_ne (ne_F h hF)]; exact q⟩
  thC := fun b h => by
    obtain ⟨o', q⟩ := R.thC b h
    exact ⟨o', by rw [upd_ne (ne_F (F := (· ∈ w.cs)) h hc)]; exact q⟩
  ok := fun n c b h1 h2 => (R.ok n c b h1 h2).over hF (ne_F (F := (· ∈ w.cs)) (List.mem_of_getElem? h2) hc)
  live := R.live
/-- a cell is written -/
theorem RelH.write {mh : MH} {n : Nat} {a : Addr} {o : HO} {c : Cell} (R : RelH T w mh H) (hc : w.cs[n]? = some a) (hF : ¬ w.F a) (new : CellOk T w (upd H a o) a c) : RelH T w (mh.set n c) (upd H a o) where
  len := by rw [List.length_set]; exact R.len
  nd := R.nd
  thF := fun b h => by
    obtain ⟨o', q⟩ := R.thF b h
    exact ⟨o', by rw [upd_ne (ne_F h hF)]; exact q⟩
  thC := fun b h => by
    by_cases e : b = a
    · exact ⟨o, by rw [e]; exact upd_same⟩
    · obtain ⟨o', q⟩ := R.thC b h
      exact ⟨o', by rw [upd_ne e]; exact q⟩
  ok := fun m c' b h1 h2 => by
    by_cases e : n = m
    · subst e
      rw [hc] at h2; cases h2
      by_cases hn : n < mh.length
      · rw [List.getElem?_set_self hn] at h1; cases h1; exact new
      · rw [List.getElem?_eq_none (by simpa using hn)] at h1; cases h1
    · rw [List.getElem?_set_ne e] at h1
      refine (R.ok m c' b h1 h2).over hF fun z => e ?_
      subst z
      exact (List.getElem?_inj (List.getElem?_eq_some_iff.mp hc).1 R.nd).mp (hc.trans h2.symm)
  live := fun m c' b h1 h2 h3 => by
    by_cases e : n = m
    · subst e
      rw [hc] at h2; cases h2
      exact hF
    · rw [List.getElem?_set_ne e] at h1
      exact R.live m c' b h1 h2 h3
theorem Ext.write {a : Addr} {o : HO} (hc : a ∈ w.cs) (hF : ¬ w.F a) : Ext w H w (upd H a o) where
  F := fun _ h => h
  F' := fun _ h => .inl h
  cs := ⟨[], by simp⟩
  cs' := fun _ h => .inl h
  H := fun b o' h k => by
    by_cases e : b = a
    · subst e; exact absurd (k hc) hF
    · rw [upd_ne e]; exact h
end
end Mn
end
section
set_option linter.all false
set_option autoImplicit false
set_option maxRecDepth 100000
/-! Mini: the judgements over the hand layer, their composition. -/
namespace Mn
open PySem PySem.Spec PyProof.Rows L2

theorem PE.weak {X : Cx} {e : Expr} {t t' : TE} (h : PE X e t) (k : ∀ σ H Q, t' σ H Q → t σ H Q) : PE X e t' := ⟨fun pins s σ H Q I q => h.run pins s σ H Q I (k σ H Q q)⟩
theorem PT.weak {X : Cx} {e : Expr} {t t' : TT} (h : PT X e t) (k : ∀ σ H Q, t' σ H Q → t σ H Q) : PT X e t' := ⟨fun pins s σ H Q I q => h.run pins s σ H Q I (k σ H Q q)⟩
theorem PW.weak {X : Cx} {e : Expr} {t t' : TT} (h : PW X e t) (k : ∀ σ H Q, t' σ H Q → t σ H Q) : PW X e t' := ⟨fun wh pins s σ H Q I q => h.run wh pins s σ H Q I (k σ H Q q)⟩
theorem PA.weak {X : Cx} {e : List Expr} {t t' : TA} (h : PA X e t) (k : ∀ σ H Q, t' σ H Q → t σ H Q) : PA X e t' := ⟨fun pos pins s σ H Q I q => h.run pos pins s σ H Q I (k σ H Q q)⟩
theorem PS.weak {X : Cx} {e : Stmt} {t t' : TS} (h : PS X e t) (k : ∀ D σ H, t' D σ H → t D σ H) : PS X e t' := ⟨fun pins s σ H D I q => h.run pins s σ H D I (k D σ H q)⟩
theorem PSs.weak {X : Cx} {e : List Stmt} {t t' : TS} (h : PSs X e t) (k : ∀ D σ H, t' D σ H → t D σ H) : PSs X e t' := ⟨fun pins s σ H D I q => h.run pins s σ H D I (k D σ H q)⟩
theorem PI.weak {X : Cx} {tg e : Expr} {t t' : TI} (h : PI X tg e t) (k : ∀ σ H R, t' σ H R → t σ H R) : PI X tg e t' := ⟨fun pins s σ H R I q => h.run pins s σ H R I (k σ H R q)⟩

/-- what follows an evaluation: its result by rel, or an exception -/
def OG (T : Stat) {α β : Type} (rel : Wd → Hp → β → α → Prop) (W : XK) (w : Wd) (H : Hp) (o : Out α) (Q : β → Hp → Prop) : Prop := match o with
  | .ok a mh' => ∀ w' b H', Ext w H w' H' → RelH T w' mh' H' → rel w' H' b a → Q b H'
  | .exc x mh' => ∀ w' cls d H', Ext w H w' H' → RelH T w' mh' H' → XOk T w'.F H' cls d x.c x.arg → W cls d H'
  | .stuck => False
section
variable {T : Stat} {α β γ δ : Type} {rel : Wd → Hp → β → α → Prop} {rel' : Wd → Hp → δ → γ → Prop} {W : XK} {w w1 : Wd} {H H1 : Hp}
theorem OG.mono {o : Out α} {Q Q' : β → Hp → Prop} (h : OG T rel W w H o Q) (k : ∀ b H', Q b H' → Q' b H') : OG T rel W w H o Q' := by
  cases o with
  | ok a mh => exact fun w' b H' x r q => k _ _ (h w' b H' x r q)
  | exc x mh => exact h
  | stuck => exact h
theorem OG.later {o : Out α} {Q : β → Hp → Prop} (x : Ext w H w1 H1) (h : OG T rel W w H o Q) : OG T rel W w1 H1 o Q := by
  cases o with
  | ok a mh => exact fun w' b H' y r q => h w' b H' (x.trans y) r q
  | exc e mh => exact fun w' c d H' y r q => h w' c d H' (x.trans y) r q
  | stuck => exact h
theorem OG.bind {o : Out α} {k : α → MH → Out γ} {Q : δ → Hp → Prop} (h : OG T rel' W w H (o.bind k) Q) :
    OG T rel W w H o (fun b H1 => ∃ w1 a mh1, o = .ok a mh1 ∧ Ext w H w1 H1 ∧ RelH T w1 mh1 H1 ∧ rel w1 H1 b a ∧ OG T rel' W w1 H1 (k a mh1) Q) := by
  cases o with
  | ok a mh => exact fun w' b H' x r q => ⟨w', a, mh, rfl, x, r, q, OG.later x h⟩
  | exc x mh => exact h
  | stuck => exact h
/-- the result is at hand -/
theorem OG.now {a : α} {mh : MH} {Q : β → Hp → Prop} (h : OG T rel W w H (.ok a mh) Q) (R : RelH T w mh H) {b : β} (r : rel w H b a) : Q b H := h w b H .refl R r
end

/-- a new object, or none -/
inductive NewD (g : Pw) (F : Addr → Prop) (H : Hp) (v : V) (r : PyData) : Hp → Prop
  | same : Dv g F H v r → NewD g F H v r H
  | new (p : Addr) (o : HO) : H p = none → Dv g (fun a => F a ∨ a = p) (upd H p o) v r → NewD g F H v r (upd H p o)
theorem OG.newD {T : Stat} {W : XK} {w : Wd} {H H' : Hp} {d : PyData} {mh : MH} {Q : VK} {v : V} (h : OG T (RvOk T) W w H (.ok (.dat d) mh) Q) (R : RelH T w mh H) (n : NewD T.g w.F H v d H') : Q v H' := by
  cases n with
  | same r => exact h w v H .refl R r
  | new p o hp r => exact h (w.add p) v _ (Ext.alloc hp) (R.alloc hp) r
theorem OG.val {T : Stat} {W : XK} {w : Wd} {H : Hp} {d : PyData} {mh : MH} {Q : VK} {v : V} (h : OG T (RvOk T) W w H (.ok (.dat d) mh) Q) (R : RelH T w mh H) (n : Dv T.g w.F H v d) : Q v H := h w v H .refl R n

/-- what the judgements stand over: where the def was entered, what is wished of exceptions -/
structure Jd where
  T : Stat
  B : Base
  W : WX
def TEm (J : Jd) (m : MEnv → MH → Out RV) : TE := fun σ H Q => ∃ w env mh, Rel J.T J.B w env mh σ H ∧ OG J.T (RvOk J.T) (fun c d H' => J.W c d σ H') w H (m env mh) Q
def relB (_ : Wd) (_ : Hp) (b b' : Bool) : Prop := b = b'
def TTm (J : Jd) (m : MEnv → MH → Out Bool) : TT := fun σ H Q => ∃ w env mh, Rel J.T J.B w env mh σ H ∧ OG J.T relB (fun c d H' => J.W c d σ H') w H (m env mh) Q
inductive RvsOk (T : Stat) (w : Wd) (H : Hp) : List V → List RV → Prop
  | nil : RvsOk T w H [] []
  | cons {v : V} {vs : List V} {r : RV} {rs : List RV} : RvOk T w H v r → RvsOk T w H vs rs → RvsOk T w H (v :: vs) (r :: rs)
def relDs (g : Pw) (w : Wd) (H : Hp) (vs : List V) (ds : List PyData) : Prop := DvA g w.F H vs ds
def TVm (J : Jd) (m : MEnv → MH → Out (List RV)) : TA := fun σ H Q => ∃ w env mh, Rel J.T J.B w env mh σ H ∧ OG J.T (RvsOk J.T) (fun c d H' => J.W c d σ H') w H (m env mh) Q
def TDm (J : Jd) (m : MEnv → MH → Out (List PyData)) : TA := fun σ H Q => ∃ w env mh, Rel J.T J.B w env mh σ H ∧ OG J.T (relDs J.T.g) (fun c d H' => J.W c d σ H') w H (m env mh) Q
theorem Ext.rvs {T : Stat} {w w' : Wd} {H H' : Hp} (x : Ext w H w' H') : ∀ {vs : List V} {rs : List RV}, RvsOk T w H vs rs → RvsOk T w' H' vs rs
  | _, _, .nil => .nil
  | _, _, .cons r t => .cons (x.rv r) (Ext.rvs x t)

section
variable {X : Cx} {J : Jd} {C : CallF}
/-! ### names, constants -/
theorem me_var {i : Nat} {x : Str} {pos : Pos} (hN : X.N[i]? = some x) (hv : Vis X.env.scope x) (hd : (x == ("__debug__" : Str)) = false) (hcd : (x == ("__classdict__" : Str)) = false) : PE X (.Name x pos) (TEm J (evE C (.var i))) := by
  refine PE.weak (pe_var hN hv hd hcd) fun σ H Q ⟨w, env, mh, R, o⟩ => ?_
  change OG _ _ _ _ _ (match env[i]? with | some (some rv) => Out.ok rv mh | _ => .stuck) Q at o
  split at o
  · rename_i rv e
    obtain ⟨v, e', r⟩ := R.e.ok i rv e
    exact ⟨v, e', o.now R.h r⟩
  · exact o.elim
theorem me_none {j pos} : PE X (.Constant .none j pos) (TEm J (evE C (.cst .none))) := PE.weak pe_non fun σ H Q ⟨w, env, mh, R, o⟩ => o.val R.h .non
theorem me_bool {b j pos} : PE X (.Constant (.bool b) j pos) (TEm J (evE C (.cst (.bool b)))) := PE.weak pe_bl fun σ H Q ⟨w, env, mh, R, o⟩ => o.val R.h (.bl b)
theorem me_int {i j pos} : PE X (.Constant (.int i) j pos) (TEm J (evE C (.cst (.int i)))) := PE.weak pe_int fun σ H Q ⟨w, env, mh, R, o⟩ => o.val R.h (.int i)
theorem me_str {x j pos} : PE X (.Constant (.str x) j pos) (TEm J (evE C (.cst (.str x)))) := PE.weak pe_str fun σ H Q ⟨w, env, mh, R, o⟩ => o.val R.h (.str x)
end
end Mn
end
section
set_option linter.all false
set_option autoImplicit false
set_option maxRecDepth 100000
/-! Mini: operations by data. -/
namespace Mn
open PySem PySem.Spec PyProof.Rows L2

/-! ### keys -/
theorem keyEq1 : ∀ k j : Key, keyEq (keyD k) (keyD j) = decide (k = j)
  | .inl i, .inl j => by simp [keyD, keyEq, key1Eq]
  | .inr i, .inr j => by simp [keyD, keyEq, key1Eq]
  | .inl i, .inr j => by simp [keyD, keyEq, key1Eq]
  | .inr i, .inl j => by simp [keyD, keyEq, key1Eq]
theorem key1Eq1 (k j : Key) : key1Eq (keyD k) (keyD j) = decide (k = j) := by
  cases k <;> cases j <;> simp [keyD, key1Eq]
theorem keysEq1 : ∀ ks js : List Key, keysEq (ks.map keyD) (js.map keyD) = decide (ks = js)
  | [], [] => rfl
  | [], _ :: _ => by simp [keysEq]
  | _ :: _, [] => by simp [keysEq]
  | k :: ks, j :: js => by
    rw [List.map_cons, List.map_cons, keysEq, key1Eq1, keysEq1 ks js]
    by_cases h : k = j <;> by_cases h2 : ks = js <;> simp [h, h2]
theorem keyEqT (ks js : List Key) : keyEq (.tuple (ks.map keyD)) (.tuple (js.map keyD)) = decide (ks = js) := by
  rw [keyEq, keysEq1]
theorem keyEq1T (k : Key) (js : List PyData) : keyEq (keyD k) (.tuple js) = false := by cases k <;> rfl
theorem keyEqT1 (k : Key) (js : List PyData) : keyEq (.tuple js) (keyD k) = false := by cases k <;> rfl
theorem isKey1_of {x : PyData} (h : isKey1 x = true) : ∃ k, x = keyD k := by
  cases x with
  | int i => exact ⟨.inl i, rfl⟩
  | str s => exact ⟨.inr s, rfl⟩
  | _ => cases h
theorem allKey1 : ∀ {l : List PyData}, l.all isKey1 = true → ∃ ks, l = List.map keyD ks
  | [], _ => ⟨[], rfl⟩
  | x :: l, h => by
    rw [List.all_cons, Bool.and_eq_true] at h
    obtain ⟨k, e⟩ := isKey1_of h.1
    obtain ⟨ks, e2⟩ := allKey1 h.2
    exact ⟨k :: ks, by rw [e, e2]; rfl⟩
theorem isKeyT_of {x : PyData} (h : isKeyT x = true) : ∃ ks : List Key, x = .tuple (ks.map keyD) := by
  cases x with
  | tuple l =>
    obtain ⟨ks, e⟩ := allKey1 (l := l) h
    exact ⟨ks, by rw [e]⟩
  | _ => cases h
theorem dvK_keys {g : Pw} {F : Addr → Prop} {H : Hp} : ∀ {kvs : List (Key × V)} {ps : List (PyData × PyData)}, DvK g F H kvs ps → ps.all (fun p => isKeyT p.1) = true → kvs = [] ∧ ps = []
  | _, _, .nil, _ => ⟨rfl, rfl⟩
  | _, _, .cons (k := k) _ _, h => by
    rw [List.all_cons, Bool.and_eq_true] at h
    cases k <;> exact absurd h.1 (by simp [keyD, isKeyT])
theorem dvT_keys {g : Pw} {F : Addr → Prop} {H : Hp} : ∀ {kvs : List (List Key × Addr × Value)} {ps : List (PyData × PyData)}, DvT g F H kvs ps → ps.all (fun p => isKey1 p.1) = true → kvs = [] ∧ ps = []
  | _, _, .nil, _ => ⟨rfl, rfl⟩
  | _, _, .cons (k := k) _ _ _ _ _, h => by
    rw [List.all_cons, Bool.and_eq_true] at h
    exact absurd h.1 (by simp [isKey1])
theorem dvK_get {g : Pw} {F : Addr → Prop} {H : Hp} (k : Key) : ∀ {kvs : List (Key × V)} {ps : List (PyData × PyData)}, DvK g F H kvs ps →
    (dget ps (keyD k) = none ∧ valV kvs k = none) ∨ ∃ v d, dget ps (keyD k) = some d ∧ valV kvs k = some v ∧ Dv g F H v d
  | _, _, .nil => .inl ⟨rfl, rfl⟩
  | _, _, .cons (k := j) (v := v) (d := d) r t => by
    rw [dget, keyEq1]
    by_cases e : j = k
    · exact .inr ⟨v, d, by simp [e], valV_pos (p := (j, v)) e, r⟩
    · rcases dvK_get k t with ⟨h1, h2⟩ | ⟨v', d', h1, h2, h3⟩
      · exact .inl ⟨by simp [e, h1], (valV_neg (p := (j, v)) e).trans h2⟩
      · exact .inr ⟨v', d', by simp [e, h1], (valV_neg (p := (j, v)) e).trans h2, h3⟩
/-- the entry of a key -/
def atT (xs : List (List Key × Addr × Value)) (k : List Key) : Option (Addr × Value) := atKey xs k
theorem dvT_get {g : Pw} {F : Addr → Prop} {H : Hp} (k : List Key) : ∀ {kvs : List (List Key × Addr × Value)} {ps : List (PyData × PyData)}, DvT g F H kvs ps →
    (dget ps (.tuple (k.map keyD)) = none ∧ (atKey kvs k).map (·.2) = none) ∨ ∃ u v d, dget ps (.tuple (k.map keyD)) = some d ∧ (atKey kvs k).map (·.2) = some u ∧ RelV v u ∧ Dv g F H v d
  | _, _, .nil => .inl ⟨rfl, rfl⟩
  | _, _, .cons (k := j) (b := b) (u := u) (v := v) (d := d) _ _ q r t => by
    rw [dget, keyEqT]
    by_cases e : j = k
    · exact .inr ⟨u, v, d, by simp [e], by simp [atKey, List.find?_cons, e], q, r⟩
    · have e2 : ∀ l, atKey ((j, b, u) :: l) k = atKey l k := fun l => by simp [atKey, List.find?_cons, e]
      rw [e2]
      rcases dvT_get k t with ⟨h1, h2⟩ | ⟨u', v', d', h1, h2, h3⟩
      · exact .inl ⟨by simp [e, h1], h2⟩
      · exact .inr ⟨u', v', d', by simp [e, h1], h2, h3⟩
theorem dvK_any {g : Pw} {F : Addr → Prop} {H : Hp} (k : Key) : ∀ {kvs : List (Key × V)} {ps : List (PyData × PyData)}, DvK g F H kvs ps →
    (ps.any fun p => keyEq p.1 (keyD k)) = kvs.any fun kv => decide (kv.1 = k)
  | _, _, .nil => rfl
  | _, _, .cons (k := j) r t => by rw [List.any_cons, List.any_cons, keyEq1, dvK_any k t]
theorem dvK_map {g : Pw} {F : Addr → Prop} {H : Hp} (k : Key) {v : V} {d : PyData} (q : Dv g F H v d) : ∀ {kvs : List (Key × V)} {ps : List (PyData × PyData)}, DvK g F H kvs ps →
    DvK g F H (kvs.map fun kv => if kv.1 = k then (kv.1, v) else kv) (ps.map fun p => if keyEq p.1 (keyD k) then (p.1, d) else p)
  | _, _, .nil => .nil
  | _, _, .cons (k := j) r t => by
    rw [List.map_cons, List.map_cons, keyEq1]
    by_cases e : j = k
    · rw [if_pos e, decide_eq_true e]; exact .cons q (dvK_map k q t)
    · rw [if_neg e, decide_eq_false e]; exact .cons r (dvK_map k q t)
theorem dvK_app {g : Pw} {F : Addr → Prop} {H : Hp} {k : Key} {v : V} {d : PyData} (q : Dv g F H v d) : ∀ {kvs : List (Key × V)} {ps : List (PyData × PyData)}, DvK g F H kvs ps → DvK g F H (kvs ++ [(k, v)]) (ps ++ [(keyD k, d)])
  | _, _, .nil => .cons q .nil
  | _, _, .cons r t => .cons r (dvK_app q t)
theorem dvK_put {g : Pw} {F : Addr → Prop} {H : Hp} (k : Key) {v : V} {d : PyData} (q : Dv g F H v d) {kvs : List (Key × V)} {ps : List (PyData × PyData)} (h : DvK g F H kvs ps) : DvK g F H (putK kvs k v) (dput ps (keyD k) d) := by
  unfold putK dput
  rw [dvK_any k h]
  split
  · exact dvK_map k q h
  · exact dvK_app q h
theorem keyV {g : Pw} {F : Addr → Prop} {H : Hp} {v : V} {k : Key} (h : WOk g F H v (keyD k)) : v = kV k := by
  cases k with
  | inl i => exact h.int
  | inr s => exact h.str
theorem keysV {g : Pw} {F : Addr → Prop} {H : Hp} : ∀ {xs : List V} {ks : List Key}, DvA g F H xs (ks.map keyD) → xs = ks.map kV
  | [], [], _ => rfl
  | [], k :: ks, h => by cases h
  | _ :: _, [], h => by cases h
  | x :: xs, k :: ks, h => by
    rw [List.map_cons] at h ⊢
    cases h with
    | cons r t => rw [keysV t, keyV (.inl r)]
theorem keyTV {g : Pw} {F : Addr → Prop} {H : Hp} {v : V} {ks : List Key} (h : WOk g F H v (.tuple (ks.map keyD))) : ∃ b, v = .ref b ∧ F b ∧ TupAt H b (ks.map kV) := by
  obtain ⟨a, xs, e, f, hH, r⟩ := h.tuple
  exact ⟨a, e, f, by rw [← keysV r]; exact hH⟩

/-! ### dicts with tuple keys; an empty dict is one of either kind -/
section
variable {X : Cx} {g : Pw} {pins : List (Addr × Obj)} {σ : L2.St} {F : Addr → Prop} {H : Hp} {s : Shared} {a : Addr}
theorem keyT_of (I : Inv X pins σ H s) {b : Addr} {ks : List Key} (e : TupAt H b (ks.map kV)) : (tupleKind (mixKind X.prog X.w)).is s.heap ks b := by
  obtain ⟨ob, e, _⟩ := e
  obtain ⟨_, _, its, r, o, h1, h2, n, h3⟩ := I.hok b _ e
  exact ⟨o, its.toArray, n, h1, h2, h3, by simpa using items_are r⟩
theorem td_is (I : Inv X pins σ H s) : ∀ {kvs : List (List Key × Addr × Value)} {ps : List (PyData × PyData)}, DvT g F H kvs ps → ∀ x ∈ kvs, (tupleKind (mixKind X.prog X.w)).is s.heap x.1 x.2.1
  | _, _, .nil, x, hx => nomatch hx
  | _, _, .cons f t q r rest, x, hx => by
    rcases List.mem_cons.mp hx with e | hx
    · subst e; exact keyT_of I t
    · exact td_is I rest x hx
theorem td_rd {kvs : List (List Key × Addr × Value)} {ps : List (PyData × PyData)} (hg : g = ⟨X.prog, X.w⟩) (I : Inv X pins σ H s) (e : Rd H a (TD g a kvs)) (t : DvT g F H kvs ps) :
    kvs.length ≤ sizeLine ∧ (a == sysModules) = false ∧ s.heap.DictOfH (tupleKind (mixKind X.prog X.w)) a kvs := by
  subst hg
  obtain ⟨⟨h1, h2, h3, o, es, ep, h4, h5, h6, h7⟩, _⟩ := e.ok I.hok
  exact ⟨h1, h2, o, es, ep, h4, h5, h6, h7, td_is I t, h3⟩
theorem rdT_of (I : Inv X pins σ H s) (e : Rd H a (.dK [])) : (a == sysModules) = false ∧ s.heap.DictOfH (tupleKind (mixKind X.prog X.w)) a [] := by
  obtain ⟨z, y, vs, r, o, es, ep, e, ex, hd, _, c, _⟩ := e.ok I.hok
  cases r
  refine ⟨y, o, es, ep, e, ex, hd, ?_, fun x hx => absurd hx (by simp), by simp⟩
  generalize es.toList = l at c
  cases c
  rfl
theorem rdK_of (hg : g = ⟨X.prog, X.w⟩) (I : Inv X pins σ H s) (e : Rd H a (TD g a [])) : (a == sysModules) = false ∧ s.heap.DictOf (mixKind X.prog X.w) a [] := by
  obtain ⟨h1, h2, o, es, ep, e, ex, hd, c, _, _⟩ := td_rd (F := fun _ => False) hg I e .nil
  have c' : es = #[] := by simpa using c
  subst c'
  exact ⟨h2, o, _, ep, e, ex, hd, fun x hx => absurd hx (by simp), .nil, by simp⟩
/-- what a dict holds at a key -/
def DGetE (g : Pw) (F : Addr → Prop) (H : Hp) (a : Addr) (y : V) (r : Option V) : Prop :=
  (∃ kvs k, Rd H a (.dK kvs) ∧ y = kV k ∧ r = valV kvs k) ∨
  (∃ kvs ps k b, Rd H a (TD g a kvs) ∧ DvT g F H kvs ps ∧ y = .ref b ∧ TupAt H b (List.map kV k) ∧ RelO r ((atKey kvs k).map (·.2))) ∨
  (r = none ∧ ((Rd H a (.dK []) ∧ ∃ (k : List Key) (b : Addr), y = .ref b ∧ TupAt H b (k.map kV)) ∨ (Rd H a (TD g a []) ∧ ∃ k, y = kV k)))
variable {A : Around} {E : Value → Shared → Prop} {y d : V} {u r : Value} {o : Option V}
theorem DGetE.typeIs (hg : g = ⟨X.prog, X.w⟩) (I : Inv X pins σ H s) (q : DGetE g F H a y o) : s.TypeIs (.ref a) "dict" := by
  rcases q with ⟨kvs, k, e, ey, l⟩ | ⟨kvs, ps, k, b, e, t, ey, eb, l⟩ | ⟨rfl, ⟨e, k, b, ey, eb⟩ | ⟨e, k, ey⟩⟩
  · obtain ⟨_, _, _, _, dd⟩ := dk_rd I.hok e
    exact dd.typeIs
  · exact (td_rd hg I e t).2.2.typeIs
  · exact (rdT_of I e).2.typeIs
  · exact (rdK_of hg I e).2.typeIs
theorem de_in {Q : Value → Shared → Prop} (hg : g = ⟨X.prog, X.w⟩) (hu : A.units + 1 < cLine) (I : Inv X pins σ H s) (q : DGetE g F H a y o) (ry : RelV y u) (h : ∀ s', Inv X pins σ H s' → Q (.bool o.isSome) s') :
    wpAny (model X.prog X.w) A (compareOp .In u (.ref a)) Q E s := by
  rcases q with ⟨kvs, k, e, ey, l⟩ | ⟨kvs, ps, k, b, e, t, ey, eb, l⟩ | ⟨rfl, ⟨e, k, b, ey, eb⟩ | ⟨e, k, ey⟩⟩
  · exact d_in hu I (.inl ⟨kvs, k, e, ey, l⟩) ry h
  · subst ey
    cases (show u = Value.ref b from ry)
    obtain ⟨_, hd, dd⟩ := td_rd hg I e t
    refine wpAny_in_heap (tupleKind_room_in1 hu) (keyT_of I eb) hd dd ?_
    have q := l.isSome_eq
    rw [Option.isSome_map] at q
    rw [← q]
    exact h _ (I.tok _)
  · subst ey
    cases (show u = Value.ref b from ry)
    obtain ⟨hd, dd⟩ := rdT_of I e
    exact wpAny_in_heap (tupleKind_room_in1 hu) (keyT_of I eb) hd dd (h _ (I.tok _))
  · subst ey
    obtain ⟨hd, dd⟩ := rdK_of hg I e
    exact wpAny_in_of (kV_is ry) hd dd.mapOf (h _ (I.tok _))
theorem de_notIn {Q : Value → Shared → Prop} (hg : g = ⟨X.prog, X.w⟩) (hu : A.units + 1 < cLine) (I : Inv X pins σ H s) (q : DGetE g F H a y o) (ry : RelV y u) (h : ∀ s', Inv X pins σ H s' → Q (.bool (!o.isSome)) s') :
    wpAny (model X.prog X.w) A (compareOp .NotIn u (.ref a)) Q E s := by
  rcases q with ⟨kvs, k, e, ey, l⟩ | ⟨kvs, ps, k, b, e, t, ey, eb, l⟩ | ⟨rfl, ⟨e, k, b, ey, eb⟩ | ⟨e, k, ey⟩⟩
  · exact d_notIn hu I (.inl ⟨kvs, k, e, ey, l⟩) ry h
  · subst ey
    cases (show u = Value.ref b from ry)
    obtain ⟨_, hd, dd⟩ := td_rd hg I e t
    refine wpAny_notIn_heap (tupleKind_room_in1 hu) (keyT_of I eb) hd dd ?_
    have q := l.isSome_eq
    rw [Option.isSome_map] at q
    rw [← q]
    exact h _ (I.tok _)
  · subst ey
    cases (show u = Value.ref b from ry)
    obtain ⟨hd, dd⟩ := rdT_of I e
    exact wpAny_notIn_heap (tupleKind_room_in1 hu) (keyT_of I eb) hd dd (h _ (I.tok _))
  · subst ey
    obtain ⟨hd, dd⟩ := rdK_of hg I e
    exact wpAny_notIn_of (kV_is ry) hd dd.mapOf (h _ (I.tok _))
theorem de_getItem {v : V} {Q : Value → Shared → Prop} (hg : g = ⟨X.prog, X.w⟩) (hu : A.units + 1 < cLine) (I : Inv X pins σ H s) (q : DGetE g F H a y (some v)) (ry : RelV y u) (h : ∀ w' s', Inv X pins σ H s' → RelV v w' → Q w' s') :
    wpAny (model X.prog X.w) A (getItem (.ref a) u) Q E s := by
  rcases q with ⟨kvs, k, e, ey, l⟩ | ⟨kvs, ps, k, b, e, t, ey, eb, l⟩ | ⟨z, _⟩
  · exact d_getItem hu I (.inl ⟨kvs, k, e, ey, l⟩) ry h
  · subst ey
    cases (show u = Value.ref b from ry)
    obtain ⟨_, hd, dd⟩ := td_rd hg I e t
    obtain ⟨w', hw, rw'⟩ := l.some_of
    obtain ⟨p, hp, hp2⟩ := Option.map_eq_some_iff.mp hw
    refine wpAny_getItem_heap (tupleKind_room_in1 hu) (keyT_of I eb) dd hp ?_
    rw [hp2]
    exact h w' _ (I.tok _) rw'
  · cases z
theorem de_get2 {Q : Value → Shared → Prop} (hg : g = ⟨X.prog, X.w⟩) (hu : A.units + 1 < cLine) (I : Inv X pins σ H s) (q : DGetE g F H a y o) (ry : RelV y u) (rd : RelV d r) (h : ∀ w' s', Inv X pins σ H s' → RelV (o.getD d) w' → Q w' s') :
    wpAny (model X.prog X.w) A (call (.builtin "dict.get") [.ref a, u, r]) Q E s := by
  rcases q with ⟨kvs, k, e, ey, l⟩ | ⟨kvs, ps, k, b, e, t, ey, eb, l⟩ | ⟨rfl, ⟨e, k, b, ey, eb⟩ | ⟨e, k, ey⟩⟩
  · exact d_get2 hu I (.inl ⟨kvs, k, e, ey, l⟩) ry rd h
  · subst ey
    cases (show u = Value.ref b from ry)
    obtain ⟨_, hd, dd⟩ := td_rd hg I e t
    refine call_meetsIn PySem.F.slot_dict_get dd.typeIs PySem.F.entry_dict_get (PySem.F.args_dict_get_3 _ _ _) (meetsH_dict_get_default (tupleKind (mixKind X.prog X.w)) a b hd r) ⟨tupleKind_room_in1 hu, k, kvs, keyT_of I eb, dd, h _ _ (I.tok _) ?_⟩
    exact l.getD rd
  · subst ey
    cases (show u = Value.ref b from ry)
    obtain ⟨hd, dd⟩ := rdT_of I e
    refine call_meetsIn PySem.F.slot_dict_get dd.typeIs PySem.F.entry_dict_get (PySem.F.args_dict_get_3 _ _ _) (meetsH_dict_get_default (tupleKind (mixKind X.prog X.w)) a b hd r) ⟨tupleKind_room_in1 hu, k, [], keyT_of I eb, dd, h _ _ (I.tok _) ?_⟩
    exact rd
  · subst ey
    obtain ⟨hd, dd⟩ := rdK_of hg I e
    refine call_meetsIn PySem.F.slot_dict_get dd.typeIs PySem.F.entry_dict_get (PySem.F.args_dict_get_3 _ _ _) (meets_dict_get_default (mixKind X.prog X.w) a (kV_is ry) hd r) ⟨_, dd.mapOf, h _ _ (I.tok _) ?_⟩
    exact rd
end
/-- by data -/
theorem dgetE_of {g : Pw} {F : Addr → Prop} {H : Hp} {x y : V} {ps : List (PyData × PyData)} {k : PyData} (hx : WOk g F H x (.dict ps)) (hy : WOk g F H y k) (hk : kindOk ps k = true) :
    ∃ a o, x = .ref a ∧ DGetE g F H a y o ∧ ((o = none ∧ dget ps k = none) ∨ ∃ v d, o = some v ∧ dget ps k = some d ∧ Dv g F H v d) := by
  obtain ⟨a, e, h⟩ := hx.dict
  refine ⟨a, ?_⟩
  unfold kindOk at hk
  rw [Bool.or_eq_true, Bool.and_eq_true, Bool.and_eq_true] at hk
  rcases hk with ⟨h1, h2⟩ | ⟨h1, h2⟩
  · obtain ⟨kk, rfl⟩ := isKey1_of h1
    have ey := keyV hy
    rcases h with ⟨kvs, r, q⟩ | ⟨kvs, r, q⟩
    · refine ⟨valV kvs kk, e, .inl ⟨kvs, kk, r, ey, rfl⟩, ?_⟩
      rcases dvK_get kk q with ⟨h3, h4⟩ | ⟨v, d, h3, h4, h5⟩
      · exact .inl ⟨h4, h3⟩
      · exact .inr ⟨v, d, h4, h3, h5⟩
    · obtain ⟨rfl, rfl⟩ := dvT_keys q h2
      exact ⟨none, e, .inr (.inr ⟨rfl, .inr ⟨r, kk, ey⟩⟩), .inl ⟨rfl, rfl⟩⟩
  · obtain ⟨kk, rfl⟩ := isKeyT_of h1
    obtain ⟨b, ey, fb, eb⟩ := keyTV hy
    rcases h with ⟨kvs, r, q⟩ | ⟨kvs, r, q⟩
    · obtain ⟨rfl, rfl⟩ := dvK_keys q h2
      exact ⟨none, e, .inr (.inr ⟨rfl, .inl ⟨r, kk, b, ey, eb⟩⟩), .inl ⟨rfl, rfl⟩⟩
    · rcases dvT_get kk q with ⟨h3, h4⟩ | ⟨u, v, d, h3, h4, h5, h6⟩
      · exact ⟨none, e, .inr (.inl ⟨kvs, ps, kk, b, r, q, ey, eb, by rw [h4]; trivial⟩), .inl ⟨rfl, h3⟩⟩
      · exact ⟨some v, e, .inr (.inl ⟨kvs, ps, kk, b, r, q, ey, eb, by rw [h4]; exact h5⟩), .inr ⟨v, d, rfl, h3, h6⟩⟩

/-! ### comparisons -/
def rCmpM (g : Pw) (op : CmpOp) : R2 := fun x y H Q => ∃ F d e b, WOk g F H x d ∧ WOk g F H y e ∧ cmpD op d e = some b ∧ Q (.bl b) H
section
variable {X : Cx} {g : Pw} {pins : List (Addr × Obj)} {σ : L2.St} {H : Hp} {s : Shared} {F : Addr → Prop} {x y : V} {u v : Value} {d e : PyData} {E : Value → Shared → Prop}
theorem rds (I : Inv X pins σ H s) (h : WOk g F H x d) (p : d.plain = true) (r : RelV x v) : ∃ as, Reads s.heap v d as := (h.dp (K := X.K) p).reads I d x v r
theorem depOk_iff {d : PyData} : depOk d = true ↔ d.plain = true ∧ d.depth ≤ 64 := by unfold depOk; rw [Bool.and_eq_true, decide_eq_true_iff]
theorem eq_two {b : Bool} (hu : X.A.units + 200 < cLine) (I : Inv X pins σ H s) (hx : WOk g F H x d) (hy : WOk g F H y e) (rx : RelV x v) (ry : RelV y u) (h : eqD d e = some b) {Q : Value → Shared → Prop} :
    (Q (.bool b) s → wpAny (model X.prog X.w) X.A (compareOp .Eq v u) Q E s) ∧ (Q (.bool !b) s → wpAny (model X.prog X.w) X.A (compareOp .NotEq v u) Q E s) := by
  unfold eqD at h
  split at h
  · rename_i c
    rw [Bool.and_eq_true, depOk_iff, depOk_iff] at c
    cases h
    obtain ⟨as, r1⟩ := rds I hx c.1.1 rx
    obtain ⟨bs, r2⟩ := rds I hy c.2.1 ry
    exact ⟨fun q => SeqAt.eq_plain r1 r2 c.1.1 c.2.1 (by have := c.1.2; omega) q, fun q => SeqAt.ne_plain r1 r2 c.1.1 c.2.1 (by have := c.1.2; omega) q⟩
  · cases h
theorem nn_ne {d : PyData} (h : nn d = true) : d ≠ .none := by cases d <;> simp [nn] at h ⊢
theorem lt_four {b : Bool} (hu : X.A.units + 200 < cLine) (I : Inv X pins σ H s) (hx : WOk g F H x d) (hy : WOk g F H y e) (rx : RelV x v) (ry : RelV y u) (h : ltD d e = some b) {Q : Value → Shared → Prop} :
    (Q (.bool b) s → wpAny (model X.prog X.w) X.A (compareOp .Lt v u) Q E s) ∧ (Q (.bool b) s → wpAny (model X.prog X.w) X.A (compareOp .Gt u v) Q E s) ∧
    (Q (.bool !b) s → wpAny (model X.prog X.w) X.A (compareOp .GtE v u) Q E s) ∧ (Q (.bool !b) s → wpAny (model X.prog X.w) X.A (compareOp .LtE u v) Q E s) := by
  unfold ltD at h
  split at h
  · rename_i c
    rw [Bool.and_eq_true, Bool.and_eq_true, Bool.and_eq_true, depOk_iff, depOk_iff] at c
    obtain ⟨⟨⟨c1, c2⟩, c3⟩, c4⟩ := c
    cases h
    obtain ⟨as, r1⟩ := rds I hx c1.1 rx
    obtain ⟨bs, r2⟩ := rds I hy c2.1 ry
    have h1 := c1.2
    have h2 := c2.2
    have c5 : PySem.W.alike e d = true := by rw [PySem.W.alike_comm]; exact c3
    have c6 := PySem.W.ne_none_both c3 (nn_ne c4)
    exact ⟨PySem.W.lt_data r1 r2 c3 (nn_ne c4) (by omega), PySem.W.gt_data r2 r1 c5 c6 (by omega), PySem.W.ge_data r1 r2 c3 (nn_ne c4) (by omega), PySem.W.le_data r2 r1 c5 c6 (by omega)⟩
  · cases h
theorem in_two {b : Bool} (hg : g = ⟨X.prog, X.w⟩) (hu : X.A.units + 200 < cLine) (I : Inv X pins σ H s) (hx : WOk g F H x d) (hy : WOk g F H y e) (rx : RelV x v) (ry : RelV y u) (h : inD d e = some b) {Q : Value → Shared → Prop} :
    ((∀ s', Inv X pins σ H s' → Q (.bool b) s') → wpAny (model X.prog X.w) X.A (compareOp .In v u) Q X.xe s) ∧ ((∀ s', Inv X pins σ H s' → Q (.bool !b) s') → wpAny (model X.prog X.w) X.A (compareOp .NotIn v u) Q X.xe s) := by
  cases e with
  | list xs =>
    change (if depOk d && depOk (.list xs) then some (xs.any fun z => PyData.eqv z d) else none) = some b at h
    split at h
    · rename_i c
      rw [Bool.and_eq_true, depOk_iff, depOk_iff] at c
      cases h
      obtain ⟨as, r1⟩ := rds I hx c.1.1 rx
      obtain ⟨bs, r2⟩ := rds I hy c.2.1 ry
      have p := c.2.1
      rw [PyData.plain] at p
      exact ⟨fun q => SeqAt.in_list_data r2 r1 p c.1.1 (by have := c.1.2; omega) (q s I), fun q => SeqAt.notIn_list_data r2 r1 p c.1.1 (by have := c.1.2; omega) (q s I)⟩
    · cases h
  | tuple xs =>
    change (if depOk d && depOk (.tuple xs) then some (xs.any fun z => PyData.eqv z d) else none) = some b at h
    split at h
    · rename_i c
      rw [Bool.and_eq_true, depOk_iff, depOk_iff] at c
      cases h
      obtain ⟨as, r1⟩ := rds I hx c.1.1 rx
      obtain ⟨bs, r2⟩ := rds I hy c.2.1 ry
      have p := c.2.1
      rw [PyData.plain] at p
      exact ⟨fun q => SeqAt.in_tuple_data r2 r1 p c.1.1 (by have := c.1.2; omega) (q s I), fun q => SeqAt.notIn_tuple_data r2 r1 p c.1.1 (by have := c.1.2; omega) (q s I)⟩
    · cases h
  | str z =>
    cases d with
    | str i =>
      have h' : inStr i z = b := Option.some.inj h
      subst h'
      have e1 := hx.str
      have e2 := hy.str
      subst e1 e2
      refine ⟨fun q => ?_, fun q => ?_⟩
      · unfold inStr at q
        split at q
        · refine thn (op_in_sign pins s σ H _ _ v u (fun w' H' => w' = .bl (decide (_ ∈ z.cps.toList)) ∧ H' = H) I rx ry ⟨_, _, rfl, rfl, rfl, rfl⟩) ?_
          rintro w' s' ⟨_, _, I', r', rfl, rfl⟩
          cases r'
          exact q s' I'
        · refine thn (op_in_str pins s σ H _ _ v u (fun w' H' => w' = .bl (!(Builtin.Str.occurrences z i 0 z.length 1).isEmpty) ∧ H' = H) I rx ry ⟨_, _, rfl, rfl, rfl, rfl⟩) ?_
          rintro w' s' ⟨_, _, I', r', rfl, rfl⟩
          cases r'
          exact q s' I'
      · unfold inStr at q
        split at q
        · refine thn (op_notIn_sign pins s σ H _ _ v u (fun w' H' => w' = .bl (!decide (_ ∈ z.cps.toList)) ∧ H' = H) I rx ry ⟨_, _, rfl, rfl, rfl, rfl⟩) ?_
          rintro w' s' ⟨_, _, I', r', rfl, rfl⟩
          cases r'
          exact q s' I'
        · refine thn (op_notin_str pins s σ H _ _ v u (fun w' H' => w' = .bl (!(!(Builtin.Str.occurrences z i 0 z.length 1).isEmpty)) ∧ H' = H) I rx ry ⟨_, _, rfl, rfl, rfl, rfl⟩) ?_
          rintro w' s' ⟨_, _, I', r', rfl, rfl⟩
          cases r'
          exact q s' I'
    | _ => cases h
  | dict kvs =>
    change (if kindOk kvs d then some (dget kvs d).isSome else none) = some b at h
    split at h
    · rename_i c
      cases h
      obtain ⟨a, o, rfl, ge, ho⟩ := dgetE_of hy hx c
      cases (show u = Value.ref a from ry)
      have eo : (dget kvs d).isSome = o.isSome := by
        rcases ho with ⟨h1, h2⟩ | ⟨_, _, h1, h2, _⟩ <;> rw [h1, h2] <;> rfl
      rw [eo]
      exact ⟨fun q => de_in hg (by omega) I ge rx q, fun q => de_notIn hg (by omega) I ge rx q⟩
    · cases h
  | _ => cases h
theorem is_two {b : Bool} (I : Inv X pins σ H s) (hx : WOk g F H x d) (hy : WOk g F H y e) (rx : RelV x v) (ry : RelV y u) (h : isD d e = some b) {Q : VK} :
    (Q (.bl b) H → wpAny (model X.prog X.w) X.A (compareOp .Is v u) (EP X pins σ Q) X.xe s) ∧ (Q (.bl !b) H → wpAny (model X.prog X.w) X.A (compareOp .IsNot v u) (EP X pins σ Q) X.xe s) := by
  have non : ∀ {b : Bool}, e = .none → decide (x = .non) = b → (Q (.bl b) H → wpAny (model X.prog X.w) X.A (compareOp .Is v u) (EP X pins σ Q) X.xe s) ∧ (Q (.bl !b) H → wpAny (model X.prog X.w) X.A (compareOp .IsNot v u) (EP X pins σ Q) X.xe s) := by
    intro b e1 e2
    subst e1 e2
    have ey := hy.none
    exact ⟨fun q => op_isN pins s σ H x y v u Q I rx ry ⟨ey, q⟩, fun q => op_notN pins s σ H x y v u Q I rx ry ⟨ey, q⟩⟩
  unfold isD at h
  split at h
  · cases h; exact non rfl (by rw [hx.none]; rfl)
  · cases h; exact non rfl (by rw [hx.bool]; rfl)
  · cases h; exact non rfl (by rw [hx.int]; rfl)
  · cases h; exact non rfl (by rw [hx.str]; rfl)
  · cases h; exact non rfl (by obtain ⟨_, _, z, _⟩ := hx.list; rw [z]; rfl)
  · cases h; exact non rfl (by obtain ⟨_, _, z, _⟩ := hx.tuple; rw [z]; rfl)
  · cases h; exact non rfl (by obtain ⟨_, z, _⟩ := hx.dict; rw [z]; rfl)
  · cases h
    have e1 := hx.bool
    have e2 := hy.bool
    exact ⟨fun q => op_isBl pins s σ H x y v u Q I rx ry ⟨_, _, e1, e2, q⟩, fun q => op_notBl pins s σ H x y v u Q I rx ry ⟨_, _, e1, e2, q⟩⟩
  · cases h
theorem map_not {o : Option Bool} {b : Bool} (h : o.map not = some b) : o = some !b := by
  cases o with
  | none => cases h
  | some c => cases h; simp
theorem op_cmpM (hg : g = ⟨X.prog, X.w⟩) (hu : X.A.units + 200 < cLine) (op : CmpOp) : OpR X (compareOp op) (rCmpM g op) := by
  intro pins s σ H x y v u Q I rx ry h
  obtain ⟨F, d, e, b, hx, hy, h, q⟩ := h
  have ep : EP X pins σ Q (.bool b) s := ⟨.bl b, H, I, rfl, q⟩
  have nn2 : ∀ {c : Bool}, c = !b → EP X pins σ Q (.bool !c) s := fun {c} z => by subst z; rw [Bool.not_not]; exact ep
  cases op with
  | Eq => exact (eq_two hu I hx hy rx ry h).1 ep
  | NotEq => exact (eq_two hu I hx hy rx ry (map_not h)).2 (nn2 rfl)
  | Lt => exact (lt_four hu I hx hy rx ry h).1 ep
  | Gt => exact (lt_four hu I hy hx ry rx h).2.1 ep
  | LtE => exact (lt_four hu I hy hx ry rx (map_not h)).2.2.2 (nn2 rfl)
  | GtE => exact (lt_four hu I hx hy rx ry (map_not h)).2.2.1 (nn2 rfl)
  | In => exact (in_two hg hu I hx hy rx ry h).1 fun s' I' => ⟨.bl b, H, I', rfl, q⟩
  | NotIn => exact (in_two hg hu I hx hy rx ry (map_not h)).2 fun s' I' => ⟨.bl _, H, I', rfl, by rw [Bool.not_not]; exact q⟩
  | Is => exact (is_two I hx hy rx ry h).1 q
  | IsNot => exact (is_two I hx hy rx ry (map_not h)).2 (by rw [Bool.not_not]; exact q)
end
end Mn
end
section
set_option linter.all false
set_option autoImplicit false
set_option maxRecDepth 100000
/-! Mini: arithmetic, subscripts, slices, truth, built-in functions by data. -/
namespace Mn
open PySem PySem.Spec PyProof.Rows L2

/-! ### new objects -/
section
variable {g : Pw} {F : Addr → Prop} {H : Hp} {p : Addr} {o : HO}
theorem Dv.new {v : V} {d : PyData} (hp : H p = none) (h : Dv g F H v d) : Dv g (fun a => F a ∨ a = p) (upd H p o) v d := h.mono (fun _ => .inl) fun a u _ e => by rw [upd_ne (ne_of_none e hp)]; exact e
theorem DvA.new {v : List V} {d : List PyData} (hp : H p = none) (h : DvA g F H v d) : DvA g (fun a => F a ∨ a = p) (upd H p o) v d := h.mono (fun _ => .inl) fun a u _ e => by rw [upd_ne (ne_of_none e hp)]; exact e
theorem DvK.new {v : List (Key × V)} {d : List (PyData × PyData)} (hp : H p = none) (h : DvK g F H v d) : DvK g (fun a => F a ∨ a = p) (upd H p o) v d := h.mono (fun _ => .inl) fun a u _ e => by rw [upd_ne (ne_of_none e hp)]; exact e
theorem DvT.new {v : List (List Key × Addr × Value)} {d : List (PyData × PyData)} (hp : H p = none) (h : DvT g F H v d) : DvT g (fun a => F a ∨ a = p) (upd H p o) v d := h.mono (fun _ => .inl) fun a u _ e => by rw [upd_ne (ne_of_none e hp)]; exact e
theorem NewD.tup {xs : List V} {ds : List PyData} {ob : Obj} (hp : H p = none) (ho : ob.dict = none) (h : DvA g F H xs ds) : NewD g F H (.ref p) (.tuple ds) (upd H p (.frz ob (.tup xs))) := .new p _ hp (.tup (.inr rfl) ⟨ob, upd_same, ho⟩ (h.new hp))
theorem TupAt.sq {K : PySem.W.Frag} {a : Addr} {xs : List V} (h : TupAt H a xs) : SqT K H a xs := let ⟨o, e, _⟩ := h; .inl (.inr ⟨o, e⟩)
theorem NewD.lst {xs : List V} {ds : List PyData} (hp : H p = none) (h : DvA g F H xs ds) : NewD g F H (.ref p) (.list ds) (upd H p (.lst xs)) := .new p _ hp (.lst (.inr rfl) (.inl upd_same) (h.new hp))
theorem NewD.int (i : Int) : NewD g F H (.int i) (.int i) H := .same (.int i)
theorem NewD.str (i : Str) : NewD g F H (.str i) (.str i) H := .same (.str i)
theorem NewD.bool (i : Bool) : NewD g F H (.bl i) (.bool i) H := .same (.bl i)
end
theorem big_le {n : Nat} (h : big n = true) : n ≤ sizeLine := by
  have h := of_decide_eq_true h
  rw [sizeLine_eq]; exact h
theorem small64_iff {i : Int} (h : small64 i = true) : -(2 ^ 64) < i ∧ i < 2 ^ 64 := of_decide_eq_true h

section
variable {X : Cx}
theorem op_catL : OpR X (binaryOp .Add) (fun x y H Q => ∃ l b xs zs, x = .ref l ∧ y = .ref b ∧ Rd H l (.lst xs) ∧ Rd H b (.lst zs) ∧ xs.length + zs.length ≤ sizeLine ∧ ∀ p, H p = none → Q (.ref p) (upd H p (.lst (xs ++ zs)))) := by
  intro pins s σ H x y v u Q I rx ry h
  obtain ⟨l, b, xs, zs, rfl, rfl, hH, hB, hz, q⟩ := h
  cases rx
  cases ry
  obtain ⟨z, its, n, r, e⟩ := hH.ok I.hok
  obtain ⟨z2, its2, n2, r2, e2⟩ := hB.ok I.hok
  have hl := r.length
  have hl2 := r2.length
  refine PySem.P.add_list e e2 ?_ (by rw [List.size_toArray, List.size_toArray]; omega)
  have ea : its.toArray ++ its2.toArray = (its ++ its2).toArray := by simp
  rw [ea]
  exact ⟨.ref _, _, I.lnew (t' := s.toks) (r.append r2) (by rw [List.length_append]; omega), rfl, q _ I.fresh⟩

theorem op_catTF : OpR X (binaryOp .Add) (fun x y H Q => ∃ a b xs ys, x = .ref a ∧ y = .ref b ∧ SqT X.K H a xs ∧ SqT X.K H b ys ∧ xs.length + ys.length ≤ sizeLine ∧
    (xs = [] → Q (.ref b) H) ∧ (xs ≠ [] → ys = [] → Q (.ref a) H) ∧ (xs ≠ [] → ys ≠ [] → ∀ p o, H p = none → o.dict = none → Q (.ref p) (upd H p (.frz o (.tup (xs ++ ys)))))) := by
  intro pins s σ H x y v u Q I rx ry h
  obtain ⟨a, b, xs, ys, rfl, rfl, ha, hb, hz, q0, q1, q2⟩ := h
  by_cases hx : xs = []
  · subst hx
    cases rx
    cases ry
    obtain ⟨its, r1, p1, _⟩ := I.tuple ha
    obtain ⟨its2, r2, p2, _⟩ := I.tuple hb
    cases r1
    exact cat_tup0 p1 p2 ⟨.ref b, H, I, rfl, q0 rfl⟩
  · cases rx
    cases ry
    obtain ⟨its, r1, p1, _⟩ := I.tuple ha
    obtain ⟨its2, r2, p2, _⟩ := I.tuple hb
    refine HT.cat_tup p1 p2 (fun z => hx (r1.nil_iff.mp z)) (fun z => ⟨.ref a, H, I, rfl, q1 hx (r2.nil_iff.mp z)⟩) (fun z => ?_) (by rw [← r1.length, ← r2.length]; exact hz)
    refine ⟨.ref s.heap.objs.size, _, I.laid (t' := s.toks) (o := .frz _ (.tup (xs ++ ys))) (fun b ob q => Heap.get?_push_of_some _ q) (Nat.le_refl _) ⟨Heap.get?_push_size _ rfl, ?_⟩, rfl, q2 hx (fun w => z (r2.nil_iff.mpr w)) _ _ (I.hok.fresh (Nat.le_refl _)) rfl⟩
    exact ⟨by rw [List.length_append]; exact hz, _, r1.append r2, IsTup.new _ _⟩
theorem sl_tupF : SlR X (fun x lo hi H Q => ∃ a xs, x = .ref a ∧ SqT X.K H a xs ∧
    (HT.sIx xs.length 0 lo = 0 ∧ HT.sIx xs.length xs.length hi = xs.length → Q (.ref a) H) ∧ (¬ (HT.sIx xs.length 0 lo = 0 ∧ HT.sIx xs.length xs.length hi = xs.length) → ∀ p o, H p = none → o.dict = none → Q (.ref p) (upd H p (.frz o (.tup (cutV xs lo hi)))))) := by
  intro pins s σ H x v vl vu lo hi sl Q I rx hs pl pu h
  obtain ⟨a, xs, rfl, hx, q1, q2⟩ := h
  cases rx
  obtain ⟨its, r, ht, hz⟩ := I.tuple hx
  have hlen : its.toArray.size = xs.length := by rw [List.size_toArray]; exact r.length.symm
  refine ⟨"tuple", _, PyProof.Rows.slot_tuple_getitem.lookup, ht.typeIs, ?_⟩
  by_cases hw : HT.sIx xs.length 0 lo = 0 ∧ HT.sIx xs.length xs.length hi = xs.length
  · exact getItem_tuple_whole ht hs pl pu (by rw [hlen]; exact hw) ⟨.ref a, H, I, rfl, q1 hw⟩
  · refine HT.getItem_tuple_cut ht hs pl pu (by rw [hlen]; exact hw) ?_ (by rw [hlen]; exact hz)
    rw [hlen]
    refine ⟨.ref s.heap.objs.size, _, I.laid (t' := s.toks) (o := .frz _ (.tup (cutV xs lo hi))) (fun b ob q => Heap.get?_push_of_some _ q) (Nat.le_refl _) ⟨Heap.get?_push_size _ rfl, ?_⟩, rfl, q2 hw _ _ (I.hok.fresh (Nat.le_refl _)) rfl⟩
    exact ⟨Nat.le_trans (cutV_length xs lo hi) hz, _, (r.drop (HT.sIx xs.length 0 lo)).take (HT.sIx xs.length xs.length hi - HT.sIx xs.length 0 lo), IsTup.new _ _⟩
theorem call_tuple_F : CallR X (.type "tuple") (fun xs H Q => ∃ p ys, xs = [.ref p] ∧ ((SqL X.K H p ys ∧ ∀ l o, H l = none → o.dict = none → Q (.ref l) (upd H l (.frz o (.tup ys)))) ∨ (SqT X.K H p ys ∧ Q (.ref p) H))) := by
  intro pins s σ H xs us Q I r h
  obtain ⟨p, ys, rfl, h⟩ := h
  obtain ⟨u, rfl, rx⟩ := vals1 r
  cases rx
  rcases h with ⟨hq, q⟩ | ⟨hq, q⟩
  · obtain ⟨its, r', pl, hz⟩ := I.list hq
    have hlen := r'.length
    refine call_tuple_list pl.isList (fun h' kp => ?_) (by simp only [List.size_toArray] <;> omega)
    have I1 : Inv X pins σ H { s with heap := h' } := I.kept (t' := s.toks) kp
    have I2 := I1.laid (a := h'.objs.size) (o := .frz { cls := .type "tuple", data := .seq its.toArray } (.tup ys)) (h' := h'.push { cls := .type "tuple", data := .seq its.toArray }) (t' := s.toks) (fun b o e => Heap.get?_push_of_some _ e) (Nat.le_refl _)
      ⟨Heap.get?_push_size _ rfl, hz, its, r', IsTup.new _ _⟩
    exact ⟨.ref h'.objs.size, _, I2, rfl, q _ _ (I1.hok.fresh (Nat.le_refl _)) rfl⟩
  · obtain ⟨its, r', pl, hz⟩ := I.tuple hq
    exact call_tuple_same pl ⟨.ref p, H, I, rfl, q⟩
theorem pe_tupF {es : List Expr} {t : TA} {pos : Pos} {x1} (h : PA X es t) : PE X (.Tuple es x1 pos) (fun σ H Q => t σ H fun xs H1 => xs.length ≤ sizeLine ∧ ∀ p o, H1 p = none → o.dict = none → Q (.ref p) (upd H1 p (.frz o (.tup xs)))) := by
  refine ⟨fun pins s σ H Q I hq => ?_⟩
  refine wpAny_Tuple_spliced (thn (h.run pos pins s σ H _ I hq) fun us s1 ⟨xs, H1, I1, r, z, q⟩ => ⟨by rw [← r.length]; exact z, ?_⟩)
  have hf : H1 s1.heap.objs.size = none := I1.hok.fresh (Nat.le_refl _)
  refine ⟨.ref s1.heap.objs.size, _, I1.laid (t' := s1.toks) (o := .frz _ (.tup xs)) (fun b u e => Heap.get?_push_of_some _ e) (Nat.le_refl _) ⟨Heap.get?_push_size _ rfl, ?_⟩, rfl, q _ _ hf rfl⟩
  exact ⟨z, us, r, ⟨_, Heap.get?_push_size _ rfl, rfl, _, rfl⟩⟩

def rBinM (g : Pw) (op : Operator) : R2 := fun x y H Q => ∃ F d e r, WOk g F H x d ∧ WOk g F H y e ∧ binD op d e = some r ∧ ∀ v H', NewD g F H v r H' → Q v H'
theorem op_binM {g : Pw} (op : Operator) : OpR X (binaryOp op) (rBinM g op) := by
  intro pins s σ H x y v u Q I rx ry h
  obtain ⟨F, d, e, r, hx, hy, h, q⟩ := h
  unfold binD at h
  split at h
  · cases h
    have e1 := hx.int; have e2 := hy.int
    exact op_add pins s σ H x y v u Q I rx ry ⟨_, _, e1, e2, q _ _ (.int _)⟩
  · split at h
    · rename_i c
      cases h
      have e1 := hx.str; have e2 := hy.str
      exact op_add_str pins s σ H x y v u Q I rx ry ⟨_, _, e1, e2, big_le c, q _ _ (.str _)⟩
    · cases h
  · split at h
    · rename_i c
      cases h
      obtain ⟨a, xs, e1, h1, r1⟩ := hx.list
      obtain ⟨b, ys, e2, h2, r2⟩ := hy.list
      exact op_catL pins s σ H x y v u Q I rx ry ⟨a, b, xs, ys, e1, e2, h1, h2, by rw [r1.length, r2.length]; exact big_le c, fun p hp => q _ _ (.lst hp (r1.append r2))⟩
    · cases h
  · split at h
    · rename_i c
      cases h
      obtain ⟨a, xs, e1, f1, h1, r1⟩ := hx.tuple
      obtain ⟨b, ys, e2, f2, h2, r2⟩ := hy.tuple
      refine op_catTF pins s σ H x y v u Q I rx ry ⟨a, b, xs, ys, e1, e2, h1.sq, h2.sq, by rw [r1.length, r2.length]; exact big_le c, fun z => ?_, fun _ z => ?_, fun _ _ p o hp ho => q _ _ (.tup hp ho (r1.append r2))⟩
      · subst z
        cases r1
        exact q _ _ (.same (.tup f2 h2 r2))
      · subst z
        cases r2
        rw [List.append_nil] at q
        exact q _ _ (.same (.tup f1 h1 r1))
    · cases h
  · cases h
    have e1 := hx.int; have e2 := hy.int
    exact op_sub pins s σ H x y v u Q I rx ry ⟨_, _, e1, e2, q _ _ (.int _)⟩
  · split at h
    · rename_i c
      cases h
      have e1 := hx.int; have e2 := hy.int
      rw [Bool.or_eq_true] at c
      exact op_mul pins s σ H x y v u Q I rx ry ⟨_, _, e1, e2, c.imp small64_iff small64_iff, q _ _ (.int _)⟩
    · cases h
  · split at h
    · rename_i c
      cases h
      have e1 := hx.int; have e2 := hy.int
      have c' := of_decide_eq_true c
      exact op_fdiv pins s σ H x y v u Q I rx ry ⟨_, _, e1, e2, c', q _ _ (.int _)⟩
    · cases h
  · split at h
    · rename_i c
      cases h
      have e1 := hx.int; have e2 := hy.int
      exact op_mod pins s σ H x y v u Q I rx ry ⟨_, _, e1, e2, of_decide_eq_true c, q _ _ (.int _)⟩
    · cases h
  · split at h
    · rename_i c
      cases h
      have e1 := hx.int; have e2 := hy.int
      rw [Bool.and_eq_true, Bool.and_eq_true] at c
      have c1 := of_decide_eq_true c.1.1
      have c2 := small64_iff c.1.2
      have c3 := small64_iff c.2
      exact op_pow pins s σ H x y v u Q I rx ry ⟨_, _, e1, e2, ⟨c1.1, c1.2, by omega⟩, q _ _ (.int _)⟩
    · cases h
  · cases h

/-! ### subscripts -/
theorem dvA_at {g : Pw} {F : Addr → Prop} {H : Hp} {xs : List V} {ds : List PyData} {i : Int} {d : PyData} (r : DvA g F H xs ds) (h : atI ds i = some d) : ∃ v, atI xs i = some v ∧ Dv g F H v d := by
  unfold atI at h ⊢
  rw [r.length]
  cases e : ixN ds.length i with
  | none => rw [e] at h; cases h
  | some j =>
    rw [e] at h
    exact r.get h
def rIdxM (g : Pw) : R2 := fun x y H Q => ∃ F d e r, WOk g F H x d ∧ WOk g F H y e ∧ idxD d e = some r ∧ ∀ v, Dv g F H v r → Q v H
theorem ix_M {g : Pw} (hg : g = ⟨X.prog, X.w⟩) (hu : X.A.units + 200 < cLine) : IxR X (rIdxM g) := by
  intro value slice pins s σ H x y v u Q I rx ry h hs
  obtain ⟨F, d, e, r, hx, hy, h, q⟩ := h
  cases d with
  | list xs =>
    cases e with
    | int k =>
      obtain ⟨a, vs, e1, h1, r1⟩ := hx.list
      have e2 := hy.int
      obtain ⟨z, hz, dz⟩ := dvA_at r1 (show atI xs k = some r from h)
      exact ix_list value slice pins s σ H x y v u Q I rx ry ⟨a, vs, k, z, e1, e2, .inl h1, hz, q _ dz⟩ hs
    | _ => cases h
  | tuple xs =>
    cases e with
    | int k =>
      obtain ⟨a, vs, e1, f1, h1, r1⟩ := hx.tuple
      have e2 := hy.int
      obtain ⟨z, hz, dz⟩ := dvA_at r1 (show atI xs k = some r from h)
      exact ix_tup value slice pins s σ H x y v u Q I rx ry ⟨a, vs, k, z, e1, e2, h1.sq, hz, q _ dz⟩ hs
    | _ => cases h
  | str z =>
    cases e with
    | int k =>
      have h : (if big z.length then (L2.atI z.cps.toList k).map fun c => PyData.str ⟨#[c]⟩ else none) = some r := h
      split at h
      · rename_i c
        obtain ⟨ch, hc, er⟩ := Option.map_eq_some_iff.mp h
        subst er
        exact ix_str value slice pins s σ H x y v u Q I rx ry ⟨z, k, ch, hx.str, hy.int, big_le c, hc, q _ (.str _)⟩ hs
      · cases h
    | _ => cases h
  | dict kvs =>
    have h : (if kindOk kvs e then dget kvs e else none) = some r := by
      revert h
      cases e <;> exact fun z => z
    split at h
    · rename_i c
      obtain ⟨a, o, rfl, ge, ho⟩ := dgetE_of hx hy c
      rcases ho with ⟨_, h2⟩ | ⟨w', d', h1, h2, h3⟩
      · rw [h] at h2; cases h2
      · rw [h] at h2; cases h2
        subst h1
        cases (show v = Value.ref a from rx)
        exact tail_any (ge.typeIs hg I) PySem.F.slot_dict_getitem.lookup (de_getItem hg (by omega) I ge ry fun w2 s2 I2 r2 => ⟨w', H, I2, r2, q _ h3⟩) hs
    · cases h
  | _ => cases h

/-! ### slices -/
theorem cut_dv {g : Pw} {F : Addr → Prop} {H : Hp} {xs : List V} {ds : List PyData} (r : DvA g F H xs ds) (lo hi : Option Int) : DvA g F H (cutV xs lo hi) (cutD ds lo hi) := by
  unfold cutV cutD
  rw [r.length]
  exact (r.drop _).take _
theorem cutD_whole {α : Type} {xs : List α} {lo hi : Option Int} (h : HT.sIx xs.length 0 lo = 0 ∧ HT.sIx xs.length xs.length hi = xs.length) : cutD xs lo hi = xs := by
  unfold cutD
  rw [h.1, h.2]
  simp
def rSlM (g : Pw) : V → Option Int → Option Int → Hp → VK → Prop := fun x lo hi H Q => ∃ F d r, WOk g F H x d ∧ sliD d lo hi = some r ∧ ∀ v H', NewD g F H v r H' → Q v H'
theorem sl_M {g : Pw} : SlR X (rSlM g) := by
  intro pins s σ H x v vl vu lo hi sl Q I rx hs pl pu h
  obtain ⟨F, d, r, hx, h, q⟩ := h
  cases d with
  | list ds =>
    cases (Option.some.inj h)
    obtain ⟨a, xs, e1, h1, r1⟩ := hx.list
    exact sl_list pins s σ H x v vl vu lo hi sl Q I rx hs pl pu ⟨a, xs, e1, .inl h1, fun p hp => q _ _ (.lst hp (cut_dv r1 lo hi))⟩
  | tuple ds =>
    cases (Option.some.inj h)
    obtain ⟨a, xs, e1, f1, h1, r1⟩ := hx.tuple
    refine sl_tupF pins s σ H x v vl vu lo hi sl Q I rx hs pl pu ⟨a, xs, e1, h1.sq, fun z => ?_, fun _ p o hp ho => q _ _ (.tup hp ho (cut_dv r1 lo hi))⟩
    rw [r1.length] at z
    rw [cutD_whole z] at q
    exact q _ _ (.same (.tup f1 h1 r1))
  | _ => cases h

/-! ### truth -/
theorem big_len {g : Pw} {F : Addr → Prop} {H : Hp} {xs : List V} {ds : List PyData} (r : DvA g F H xs ds) : xs.isEmpty = ds.isEmpty := by cases r <;> rfl
theorem truV_of {K : PySem.W.Frag} {g : Pw} {F : Addr → Prop} {H : Hp} {x : V} {d : PyData} {b : Bool} (hx : WOk g F H x d) (h : truD d = some b) : TruV K x H b := by
  cases d with
  | none => cases (Option.some.inj h); rw [hx.none]; exact rfl
  | bool c => cases (Option.some.inj h); rw [hx.bool]; exact rfl
  | int i => cases (Option.some.inj h); rw [hx.int]; exact rfl
  | str z =>
    have h : (if big z.length then some (z.length != 0) else none) = some b := h
    split at h
    · rename_i c
      cases h
      rw [hx.str]
      refine ⟨big_le c, ?_⟩
      cases hz : z.length with
      | zero => rfl
      | succ n =>
        have : ((n : Int) + 1) ≠ 0 := by omega
        simp [this]
    · cases h
  | list ds =>
    cases (Option.some.inj h)
    obtain ⟨a, xs, e1, h1, r1⟩ := hx.list
    subst e1
    exact .inl ⟨xs, .inl h1, by rw [big_len r1]⟩
  | tuple ds =>
    cases (Option.some.inj h)
    obtain ⟨a, xs, e1, f1, h1, r1⟩ := hx.tuple
    subst e1
    exact .inr (.inl ⟨xs, h1.sq, by rw [big_len r1]⟩)
  | dict ps => cases h
def rTruM (g : Pw) : V → Hp → (Bool → Hp → Prop) → Prop := fun x H Q => ∃ F d b, WOk g F H x d ∧ truD d = some b ∧ Q b H
theorem tru_M {g : Pw} : TruR X (rTruM g) := by
  intro pins s σ H x v Q I rx h
  obtain ⟨F, d, b, hx, h, q⟩ := h
  exact tru_ok pins s σ H x v Q I rx ⟨b, truV_of hx h, q⟩
end
end Mn
end
section
set_option linter.all false
set_option autoImplicit false
set_option maxRecDepth 100000
/-! Mini: built-in functions by data. -/
namespace Mn
open PySem PySem.Spec PyProof.Rows L2

/-- a new list or dict -/
inductive NewF (g : Pw) (F : Addr → Prop) (H : Hp) : V → PyData → Hp → Prop
  | lst (p : Addr) (xs : List V) (ds : List PyData) : H p = none → DvA g F H xs ds → NewF g F H (.ref p) (.list ds) (upd H p (.lst xs))
  | dK (p : Addr) (kvs : List (Key × V)) (ps : List (PyData × PyData)) : H p = none → DvK g F H kvs ps → NewF g F H (.ref p) (.dict ps) (upd H p (.dK kvs))
  | dT (p : Addr) (kvs : List (List Key × Addr × Value)) (ps : List (PyData × PyData)) : H p = none → DvT g F H kvs ps → NewF g F H (.ref p) (.dict ps) (upd H p (TD g p kvs))
theorem NewF.newD {g : Pw} {F : Addr → Prop} {H H' : Hp} {v : V} {d : PyData} (h : NewF g F H v d H') : NewD g F H v d H' := by
  cases h with
  | lst p xs ds hp r => exact .lst hp r
  | dK p kvs ps hp r => exact .new p _ hp (.dK (.inr rfl) (.inl upd_same) (r.new hp))
  | dT p kvs ps hp r => exact .new p _ hp (.dT (.inr rfl) (.inl upd_same) (r.new hp))
/-- pairwise -/
inductive WOkA (g : Pw) (F : Addr → Prop) (H : Hp) : List V → List PyData → Prop
  | nil : WOkA g F H [] []
  | cons {v : V} {vs : List V} {d : PyData} {ds : List PyData} : WOk g F H v d → WOkA g F H vs ds → WOkA g F H (v :: vs) (d :: ds)
theorem WOkA.one {g : Pw} {F : Addr → Prop} {H : Hp} {vs : List V} {d : PyData} (h : WOkA g F H vs [d]) : ∃ v, vs = [v] ∧ WOk g F H v d := by
  cases h with
  | cons r t => cases t; exact ⟨_, rfl, r⟩
theorem WOkA.two {g : Pw} {F : Addr → Prop} {H : Hp} {vs : List V} {d e : PyData} (h : WOkA g F H vs [d, e]) : ∃ v u, vs = [v, u] ∧ WOk g F H v d ∧ WOk g F H u e := by
  cases h with
  | cons r t =>
    cases t with
    | cons r' t => cases t; exact ⟨_, _, rfl, r, r'⟩

def rBltM (g : Pw) (b : Blt) : List V → Hp → VK → Prop := fun xs H Q => ∃ F ds r, WOkA g F H xs ds ∧ bltD b ds = some r ∧ ∀ v H', NewD g F H v r H' → Q v H'
def rBltF (g : Pw) (b : Blt) : List V → Hp → VK → Prop := fun xs H Q => ∃ F ds r, WOkA g F H xs ds ∧ bltD b ds = some r ∧ ∀ v H', NewF g F H v r H' → Q v H'
section
variable {X : Cx} {g : Pw}
theorem un_of {f : PyData → Option PyData} {F : Addr → Prop} {H : Hp} {xs : List V} {ds : List PyData} {r : PyData} (hx : WOkA g F H xs ds) (h : un f ds = some r) : ∃ x d, xs = [x] ∧ WOk g F H x d ∧ f d = some r := by
  cases hx with
  | nil => cases h
  | cons q t =>
    cases t with
    | nil => exact ⟨_, _, rfl, q, h⟩
    | cons _ _ => cases h
theorem cb_len (hg : g = ⟨X.prog, X.w⟩) : CallR X (.builtin "len") (rBltM g .len) := by
  intro pins s σ H xs us Q I r h
  obtain ⟨F, ds, d, hx, h, q⟩ := h
  have hs : sizeLine = 16777216 := sizeLine_eq
  obtain ⟨x, e, rfl, hx, h⟩ := un_of hx h
  cases e with
  | str z =>
    have h : (if big z.length then some (PyData.int z.length) else none) = some d := h
    split at h
    · rename_i c
      cases h
      have ex := hx.str
      exact call_len pins s σ H _ us Q I r ⟨x, z.length, rfl, by subst ex; exact ⟨big_le c, rfl⟩, q _ _ (.int _)⟩
    · cases h
  | list ds =>
    cases (Option.some.inj h)
    obtain ⟨a, xs, e1, h1, r1⟩ := hx.list
    subst e1
    rw [← r1.length] at q
    exact call_len pins s σ H _ us Q I r ⟨.ref a, xs.length, rfl, .inl ⟨xs, .inl h1, rfl⟩, q _ _ (.int _)⟩
  | tuple ds =>
    cases (Option.some.inj h)
    obtain ⟨a, xs, e1, f1, h1, r1⟩ := hx.tuple
    subst e1
    rw [← r1.length] at q
    exact call_len pins s σ H _ us Q I r ⟨.ref a, xs.length, rfl, .inr ⟨xs, h1.sq, rfl⟩, q _ _ (.int _)⟩
  | dict ps =>
    cases (Option.some.inj h)
    obtain ⟨a, e1, h1⟩ := hx.dict
    subst e1
    obtain ⟨u, rfl, ru⟩ := vals1 r
    cases ru
    rcases h1 with ⟨kvs, h1, r1⟩ | ⟨kvs, h1, r1⟩
    · rw [← r1.length] at q
      exact d_len I h1 fun t s' I' => ⟨.int kvs.length, H, I', ⟨t, rfl⟩, q _ _ (.int _)⟩
    · rw [← r1.length] at q
      obtain ⟨z, hd, dd⟩ := td_rd hg I h1 r1
      exact call_len_dictH hd dd (by omega) ⟨.int kvs.length, H, I.tok _, ⟨_, rfl⟩, q _ _ (.int _)⟩
  | _ => cases h
theorem cb_tup : CallR X (.type "tuple") (rBltM g .tup) := by
  intro pins s σ H xs us Q I r h
  obtain ⟨F, ds, d, hx, h, q⟩ := h
  obtain ⟨x, e, rfl, hx, h⟩ := un_of hx h
  cases e with
  | list ds =>
    cases (Option.some.inj h)
    obtain ⟨a, xs, e1, h1, r1⟩ := hx.list
    subst e1
    exact call_tuple_F pins s σ H _ us Q I r ⟨a, xs, rfl, .inl ⟨.inl h1, fun p o hp ho => q _ _ (.tup hp ho r1)⟩⟩
  | tuple ds =>
    cases (Option.some.inj h)
    obtain ⟨a, xs, e1, f1, h1, r1⟩ := hx.tuple
    subst e1
    exact call_tuple_F pins s σ H _ us Q I r ⟨a, xs, rfl, .inr ⟨h1.sq, q _ _ (.same (.tup f1 h1 r1))⟩⟩
  | _ => cases h
theorem cb_lst : CallR X (.type "list") (rBltF g .lst) := by
  intro pins s σ H xs us Q I r h
  obtain ⟨F, ds, d, hx, h, q⟩ := h
  obtain ⟨x, e, rfl, hx, h⟩ := un_of hx h
  cases e with
  | list ds =>
    cases (Option.some.inj h)
    obtain ⟨a, xs, e1, h1, r1⟩ := hx.list
    subst e1
    exact call_list_of pins s σ H _ us Q I r ⟨a, xs, rfl, .inl (.inl h1), fun p hp => q _ _ (.lst p _ _ hp r1)⟩
  | tuple ds =>
    cases (Option.some.inj h)
    obtain ⟨a, xs, e1, f1, h1, r1⟩ := hx.tuple
    subst e1
    exact call_list_of pins s σ H _ us Q I r ⟨a, xs, rfl, .inr h1.sq, fun p hp => q _ _ (.lst p _ _ hp r1)⟩
  | _ => cases h
theorem bools_of {F : Addr → Prop} {H : Hp} : ∀ {xs : List V} {ds : List PyData} {l : List Bool}, DvA g F H xs ds → bools ds = some l → xs = l.map V.bl
  | _, _, _, .nil, h => by cases h; rfl
  | _, d :: ds, l, .cons r t, h => by
    cases d with
    | bool b =>
      obtain ⟨l', h1, rfl⟩ := Option.map_eq_some_iff.mp (show (bools ds).map (fun l => b :: l) = some l from h)
      cases r
      rw [bools_of t h1]
      rfl
    | _ => cases h
theorem cb_all (hc : X.calm = true) : CallR X (.builtin "all") (rBltM g .all) := by
  intro pins s σ H xs us Q I r h
  obtain ⟨F, ds, d, hx, h, q⟩ := h
  obtain ⟨x, e, rfl, hx, h⟩ := un_of hx h
  cases e with
  | list ds =>
    obtain ⟨l, h1, rfl⟩ := Option.map_eq_some_iff.mp h
    obtain ⟨a, xs, e1, h2, r1⟩ := hx.list
    subst e1
    rw [bools_of r1 h1] at h2
    exact cr_all hc pins s σ H _ us Q I r ⟨a, l, rfl, .inl h2, q _ _ (.bool _)⟩
  | _ => cases h
theorem cb_any (hc : X.calm = true) : CallR X (.builtin "any") (rBltM g .any) := by
  intro pins s σ H xs us Q I r h
  obtain ⟨F, ds, d, hx, h, q⟩ := h
  obtain ⟨x, e, rfl, hx, h⟩ := un_of hx h
  cases e with
  | list ds =>
    obtain ⟨l, h1, rfl⟩ := Option.map_eq_some_iff.mp h
    obtain ⟨a, xs, e1, h2, r1⟩ := hx.list
    subst e1
    rw [bools_of r1 h1] at h2
    exact cr_any hc pins s σ H _ us Q I r ⟨a, l, rfl, .inl h2, q _ _ (.bool _)⟩
  | _ => cases h
theorem cb_int : CallR X (.type "int") (rBltM g .int) := by
  intro pins s σ H xs us Q I r h
  obtain ⟨F, ds, d, hx, h, q⟩ := h
  obtain ⟨x, e, rfl, hx, h⟩ := un_of hx h
  cases e with
  | int i =>
    cases (Option.some.inj h)
    have ex := hx.int
    subst ex
    exact call_int1 pins s σ H _ us Q I r (.inl ⟨i, rfl, q _ _ (.int _)⟩)
  | bool b =>
    cases (Option.some.inj h)
    have ex := hx.bool
    subst ex
    exact call_int1 pins s σ H _ us Q I r (.inr ⟨b, rfl, q _ _ (.int _)⟩)
  | _ => cases h
theorem cb_str : CallR X (.type "str") (rBltM g .str) := by
  intro pins s σ H xs us Q I r h
  obtain ⟨F, ds, d, hx, h, q⟩ := h
  obtain ⟨x, e, rfl, hx, h⟩ := un_of hx h
  cases e with
  | int i =>
    have h : (if decide (i.natAbs.log2 < 1920) then some (PyData.str (toString i)) else none) = some d := h
    split at h
    · rename_i c
      cases h
      have ex := hx.int
      subst ex
      exact call_str_int pins s σ H _ us Q I r ⟨i, rfl, of_decide_eq_true c, q _ _ (.str _)⟩
    · cases h
  | _ => cases h
theorem cb_abs : CallR X (.builtin "abs") (rBltM g .abs) := by
  intro pins s σ H xs us Q I r h
  obtain ⟨F, ds, d, hx, h, q⟩ := h
  obtain ⟨x, e, rfl, hx, h⟩ := un_of hx h
  cases e with
  | int i =>
    cases (Option.some.inj h)
    have ex := hx.int
    subst ex
    exact call_abs pins s σ H _ us Q I r ⟨i, rfl, q _ _ (.int _)⟩
  | _ => cases h
theorem cb_min (hc : X.calm = true) : CallR X (.builtin "min") (rBltM g .min2) := by
  intro pins s σ H xs us Q I r h
  obtain ⟨F, ds, d, hx, h, q⟩ := h
  have h : min2D ds = some d := h
  unfold min2D at h
  split at h
  · obtain ⟨x, y, rfl, h1, h2⟩ := hx.two
    cases h
    have e1 := h1.int; have e2 := h2.int
    subst e1 e2
    exact call_min2 hc pins s σ H _ us Q I r ⟨_, _, rfl, q _ _ (.int _)⟩
  · cases h

/-! ### sorted -/
theorem each_of {F : Addr → Prop} {H : Hp} : ∀ {xs : List V} {us : List Value} {ds : List PyData}, Vals xs us → DvA g F H xs ds → PySem.W.EachIs (fun u d => ∃ v, RelV v u ∧ Dv g F H v d) us ds
  | _, _, _, .nil, .nil => .nil
  | _, _, _, .cons r t, .cons q rest => .cons ⟨_, r, q⟩ (each_of t rest)
theorem of_each {F : Addr → Prop} {H : Hp} : ∀ {us : List Value} {ds : List PyData}, PySem.W.EachIs (fun u d => ∃ v, RelV v u ∧ Dv g F H v d) us ds → ∃ xs : List V, Vals xs us ∧ DvA g F H xs ds
  | _, _, .nil => ⟨[], .nil, .nil⟩
  | _, _, .cons ⟨v, r, q⟩ t => let ⟨xs, h1, h2⟩ := of_each t; ⟨v :: xs, .cons r h1, .cons q h2⟩
theorem each_reads {F : Addr → Prop} {H : Hp} {pins : List (Addr × Obj)} {σ : L2.St} {s : Shared} (I : Inv X pins σ H s) : ∀ {us : List Value} {ds : List PyData}, (∀ d ∈ ds, d.plain = true) → PySem.W.EachIs (fun u d => ∃ v, RelV v u ∧ Dv g F H v d) us ds → PySem.W.EachIs (fun u d => ∃ as, Reads s.heap u (id d) as) us ds
  | _, _, _, .nil => .nil
  | _, _, hp, .cons ⟨v, r, q⟩ t => .cons ((q.dp (K := X.K) (hp _ List.mem_cons_self)).reads I _ v _ r) (each_reads I (fun d hd => hp d (List.mem_cons_of_mem _ hd)) t)
theorem cb_sorted (hu : X.A.units + 200 < cLine) : CallR X (.builtin "sorted") (rBltF g .sorted) := by
  intro pins s σ H xs us Q I r h
  obtain ⟨F, ds, d, hx, h, q⟩ := h
  obtain ⟨x, e, rfl, hx, h⟩ := un_of hx h
  cases e with
  | list ds =>
    obtain ⟨l, h1, rfl⟩ := Option.map_eq_some_iff.mp h
    obtain ⟨a, xs, e1, h2, r1⟩ := hx.list
    subst e1
    obtain ⟨u, rfl, ru⟩ := vals1 r
    cases ru
    unfold sortD at h1
    split at h1
    · rename_i c
      rw [Bool.and_eq_true, Bool.and_eq_true] at c
      obtain ⟨⟨c1, c2⟩, c3⟩ := c
      cases h1
      obtain ⟨hz, its, n, rv, eh⟩ := h2.ok I.hok
      have hlen := rv.length
      have hl2 := r1.length
      have e1 := each_of rv r1
      have pl : ∀ d ∈ ds, d.plain = true := fun d hd => (depOk_iff.mp (List.all_eq_true.mp c3 d hd)).1
      have er := each_reads I pl e1
      have hal : PySem.W.AllAlike (ds.map id) := by
        rw [List.map_id]
        intro d hd d' hd'
        exact List.all_eq_true.mp (List.all_eq_true.mp c1 d hd) d' hd'
      have hk : PySem.W.Sortable (ds.map id) := by
        rw [List.map_id]
        rw [Bool.or_eq_true] at c2
        rcases c2 with c2 | c2
        · refine .inl fun d hd => ?_
          have z := List.all_eq_true.mp c2 d hd
          cases d with
          | tuple l =>
            cases l with
            | nil => simp at z
            | cons y ys => exact ⟨y, ys, rfl⟩
          | _ => simp at z
        · refine .inr fun d hd => ?_
          have z := List.all_eq_true.mp c2 d hd
          cases d <;> simp at z ⊢
      refine PySem.W.sorted_data (R := fun u d => ∃ v, RelV v u ∧ Dv g F H v d) (enc := id) ⟨_, eh, rfl, n, rfl⟩ e1 er hal hk (by omega) (fun d hd => ?_) fun out ho eo => ?_
      · have z := (depOk_iff.mp (List.all_eq_true.mp c3 d hd)).2
        show X.A.units + 2 + d.depth < cLine
        omega
      · obtain ⟨xs', v1, v2⟩ := of_each eo
        obtain ⟨cn, hcn⟩ := sortedAll_at s.heap its out.toArray
        have hfr : H (s.heap.objs.size + 1) = none := I.hok.fresh (Nat.le_succ _)
        have hxl : xs'.length = out.length := v1.length
        refine ⟨.ref (s.heap.objs.size + 1), _, I.laid (t' := s.toks) (o := .lst xs') (fun b o e => sortedAll_old e) (Nat.le_succ _) ⟨by omega, out, cn, v1, hcn⟩, rfl, ?_⟩
        exact q _ _ (.lst _ _ _ hfr v2)
    · cases h1
  | _ => cases h

/-! ### dict(pairs) -/
structure Qd where
  b : Addr
  u : Value
  k : Key
  v : Value
theorem qds_of {F : Addr → Prop} {H : Hp} {pins : List (Addr × Obj)} {σ : L2.St} {s : Shared} (I : Inv X pins σ H s) : ∀ {xs : List V} {us : List Value} {ds : List PyData} {acc ps : List (PyData × PyData)}, Vals xs us → DvA g F H xs ds → pairsD ds acc = some ps →
    ∃ (qs : List Qd) (kvs : List (Key × V)), us = qs.map (fun z => .ref z.b) ∧ KV kvs (qs.map fun z => (z.k, z.v)) ∧ (∀ z ∈ qs, s.heap.IsTuple z.b #[z.u, z.v] ∧ keyIs z.k z.u = true) ∧ ∀ accV, DvK g F H accV acc → DvK g F H (mergeK accV kvs) ps
  | _, _, _, acc, ps, .nil, .nil, h => by
    cases h
    exact ⟨[], [], rfl, .nil, fun z hz => absurd hz (by simp), fun accV h => h⟩
  | _, _, d :: ds, acc, ps, .cons r t, .cons q rest, h => by
    unfold pairsD at h
    split at h
    · rename_i e; cases e
    · rename_i k' e' ds' acc' he
      injection he with he1 he2
      subst he1 he2
      split at h
      · rename_i c
        obtain ⟨k, rfl⟩ := isKey1_of c
        cases q with
        | tup f ta dl =>
          cases dl with
          | cons q1 dl =>
            cases dl with
            | cons q2 dl =>
              cases dl
              have e1 := keyV (.inl q1)
              subst e1
              obtain ⟨ob, eo, _⟩ := ta
              obtain ⟨_, _, its, rv, p⟩ := I.hok _ _ eo
              obtain ⟨u1, u2, rfl, ru1, ru2⟩ := Vals.two rv
              cases r
              obtain ⟨qs, kvs, g1, g2, g3, g4⟩ := qds_of I t rest h
              refine ⟨⟨_, u1, k, u2⟩ :: qs, (k, _) :: kvs, by rw [g1]; rfl, .cons ⟨rfl, ru2⟩ g2, fun z hz => ?_, fun accV hv => g4 _ (dvK_put k q2 hv)⟩
              rcases List.mem_cons.mp hz with e | hz
              · subst e
                exact ⟨p, kV_is (P := X.prog) (w := X.w) ru1⟩
              · exact g3 z hz
      · cases h
    · cases h
theorem cb_dct (hc : X.calm = true) : CallR X (.type "dict") (rBltF g .dct) := by
  intro pins s σ H xs us Q I r h
  obtain ⟨F, ds, d, hx, h, q⟩ := h
  obtain ⟨x, e, rfl, hx, h⟩ := un_of hx h
  have core : ∀ (T : String) (a : Addr) (its : List Value) (ys : List V) (es : List PyData) (ps : List (PyData × PyData)), Vals ys its → DvA g F H ys es → pairsD es [] = some ps → ys.length ≤ sizeLine → PlainSeq T s.heap a its.toArray → (T = "list" ∨ T = "tuple") →
      (∀ v H', NewF g F H v (.dict ps) H' → Q v H') → wpAny (model X.prog X.w) X.A (call (.type "dict") [.ref a]) (EP X pins σ Q) X.xe s := by
    intro T a its ys es ps rv dv hp hz pl hT q
    obtain ⟨qs, kvs, e1, e2, e3, e4⟩ := qds_of I rv dv hp
    have hl : its.length = qs.length := by rw [e1, List.length_map]
    have hyl := rv.length
    have pi : PairItems s.heap its.toArray (fun j => (qs.map Qd.b).getD j 0) (qs.map fun z => (z.u, z.v)) := by
      refine ⟨by simp [hl], fun j k v hj => ?_⟩
      rw [List.getElem?_map] at hj
      obtain ⟨z, hz1, hz2⟩ := Option.map_eq_some_iff.mp hj
      cases hz2
      have hm := e3 z (List.mem_of_getElem? hz1)
      have eb : (qs.map Qd.b).getD j 0 = z.b := by simp [List.getD, hz1]
      show its.toArray[j]? = some (.ref ((qs.map Qd.b).getD j 0)) ∧ PairAt s.heap ((qs.map Qd.b).getD j 0) z.u z.v
      rw [eb]
      refine ⟨?_, .inl hm.1⟩
      rw [List.getElem?_toArray, e1, List.getElem?_map, hz1]
      rfl
    have ph : PairsHave (mixKind X.prog X.w) (qs.map fun z => (z.u, z.v)).length (PairRel (qs.map fun z => (z.u, z.v))) (qs.map fun z => (z.k, z.v)) := by
      refine ⟨by simp, fun i key v hr => ?_⟩
      have hr : (qs.map fun z => (z.u, z.v))[i]? = some (key, v) := hr
      rw [List.getElem?_map] at hr
      obtain ⟨z, hz1, hz2⟩ := Option.map_eq_some_iff.mp hr
      cases hz2
      exact ⟨z.k, by rw [List.getElem?_map, hz1]; rfl, (e3 z (List.mem_of_getElem? hz1)).2⟩
    have hsz : (qs.map fun z => (z.u, z.v)).length ≤ sizeLine := by rw [List.length_map]; omega
    have fin : ∀ (h' : Heap) (tk : Nat), h'.DictOf (mixKind X.prog X.w) s.heap.objs.size (merged [] (qs.map fun z => (z.k, z.v))) → (∀ b o, b ∉ ([] : List Addr) → s.heap.get? b = some o → h'.get? b = some o) → EP X pins σ Q (.ref s.heap.objs.size) { s with heap := h', toks := tk } := by
      intro h' tk hd' k
      have hm : (s.heap.objs.size == sysModules) = false := beq_eq_false_iff_ne.mpr (Nat.ne_of_gt I.big)
      have hlen : (mergeK [] kvs).length ≤ sizeLine := by
        refine Nat.le_trans (length_mergeK kvs []) ?_
        have z := e2.length
        rw [List.length_map] at z
        rw [List.length_nil, Nat.zero_add]
        omega
      refine ⟨.ref s.heap.objs.size, _, I.laid (t' := tk) (o := .dK (mergeK [] kvs)) (fun b o e => k b o (by simp) e) (Nat.le_refl _) ⟨hlen, hm, merged [] (qs.map fun z => (z.k, z.v)), KV.merge e2 .nil, hd'⟩, rfl, ?_⟩
      exact q _ _ (.dK _ _ _ (I.hok.fresh (Nat.le_refl _)) (e4 [] .nil))
    rcases hT with rfl | rfl
    · exact PySem.call_dict_pairs (PairArg.list a its.toArray _ _) (I.ok.hd hc) ⟨pl, pi⟩ ph hsz fin
    · exact PySem.call_dict_pairs (PairArg.tuple a its.toArray _ _) (I.ok.hd hc) ⟨pl, pi⟩ ph hsz fin
  cases e with
  | list es =>
    obtain ⟨l, h1, rfl⟩ := Option.map_eq_some_iff.mp h
    obtain ⟨a, ys, e1, h2, r1⟩ := hx.list
    subst e1
    obtain ⟨u, rfl, ru⟩ := vals1 r
    cases ru
    obtain ⟨hz, its, n, rv, eh⟩ := h2.ok I.hok
    exact core "list" a its ys es l rv r1 h1 hz ⟨_, n, eh, rfl, rfl, rfl⟩ (.inl rfl) q
  | tuple es =>
    obtain ⟨l, h1, rfl⟩ := Option.map_eq_some_iff.mp h
    obtain ⟨a, ys, e1, f1, h2, r1⟩ := hx.tuple
    subst e1
    obtain ⟨u, rfl, ru⟩ := vals1 r
    cases ru
    obtain ⟨ob, eo, od⟩ := h2
    obtain ⟨e9, hz, its, rv, ob', eh, ec, n, ed⟩ := I.hok _ _ eo
    have : ob' = ob := Option.some.inj (eh.symm.trans e9)
    subst this
    exact core "tuple" a its ys es l rv r1 h1 hz ⟨_, n, eh, ec, od, ed⟩ (.inr rfl) q
  | _ => cases h

/-! ### isinstance -/
def tyName : PyData → String
  | .none => "NoneType"
  | .bool _ => "bool"
  | .int _ => "int"
  | .str _ => "str"
  | .list _ => "list"
  | .tuple _ => "tuple"
  | .dict _ => "dict"
def Ty.name : Ty → String
  | .tup => "tuple"
  | .str => "str"
  | .int => "int"
  | .bool => "bool"
  | .list => "list"
  | .dict => "dict"
  | .lt => ""
theorem kit_data {F : Addr → Prop} {H : Hp} {pins : List (Addr × Obj)} {σ : L2.St} {s : Shared} {x : V} {u : Value} {d : PyData} (hg : g = ⟨X.prog, X.w⟩) (I : Inv X pins σ H s) (hx : WOk g F H x d) (rx : RelV x u) :
    ∃ P : Heap → Prop, PySem.W.KitX X.K u (.type (tyName d)) P ∧ P s.heap ∧ u ≠ .builtin "__main__.__loader__#opaque" := by
  cases d with
  | none => have e := hx.none; subst e; exact kit_of I rx (.base .non)
  | bool b => have e := hx.bool; subst e; exact kit_of I rx (.base (.bl b))
  | int i => have e := hx.int; subst e; exact kit_of I rx (.base (.int i))
  | str z => have e := hx.str; subst e; exact kit_of I rx (.base (.str z))
  | list ds =>
    obtain ⟨a, xs, e, h1, _⟩ := hx.list
    subst e
    rcases h1 with h1 | ⟨o, h1⟩
    · exact kit_of I rx (.base (.lst h1))
    · exact kit_of I rx (.base (.frz h1))
  | tuple ds =>
    obtain ⟨a, xs, e, _, ⟨o, h1, _⟩, _⟩ := hx.tuple
    subst e
    exact kit_of I rx (.fTuple h1)
  | dict ps =>
    obtain ⟨a, e, h1⟩ := hx.dict
    subst e
    cases (show u = Value.ref a from rx)
    rcases h1 with ⟨kvs, h1, r1⟩ | ⟨kvs, h1, r1⟩
    · obtain ⟨_, _, vs, _, o, es, ep, h4, h5, _⟩ := dk_rd I.hok h1
      exact ⟨_, PySem.W.kitx_dict, ⟨o, h4, h5.1⟩, fun z => nomatch z⟩
    · obtain ⟨_, _, o, es, ep, h4, h5, _⟩ := td_rd hg I h1 r1
      exact ⟨_, PySem.W.kitx_dict, ⟨o, h4, h5.1⟩, fun z => nomatch z⟩
theorem kit_tys (t : Ty) (d : PyData) (ht : t ≠ .lt) (K : PySem.W.Frag) : PySem.W.kitOne K (.type (tyName d)) (.type t.name) = some (tyD t d) := by
  cases d with
  | none => cases t <;> first | exact absurd rfl ht | exact kit_ty (a := "NoneType") (r := false) (by decide +kernel)
  | bool b => cases t <;> first | exact absurd rfl ht | exact kit_ty (a := "bool") (r := false) (by decide +kernel) | exact kit_ty (a := "bool") (r := true) (by decide +kernel)
  | int i => cases t <;> first | exact absurd rfl ht | exact kit_ty (a := "int") (r := false) (by decide +kernel) | exact kit_ty (a := "int") (r := true) (by decide +kernel)
  | str z => cases t <;> first | exact absurd rfl ht | exact kit_ty (a := "str") (r := false) (by decide +kernel) | exact kit_ty (a := "str") (r := true) (by decide +kernel)
  | list z => cases t <;> first | exact absurd rfl ht | exact kit_ty (a := "list") (r := false) (by decide +kernel) | exact kit_ty (a := "list") (r := true) (by decide +kernel)
  | tuple z => cases t <;> first | exact absurd rfl ht | exact kit_ty (a := "tuple") (r := false) (by decide +kernel) | exact kit_ty (a := "tuple") (r := true) (by decide +kernel)
  | dict z => cases t <;> first | exact absurd rfl ht | exact kit_ty (a := "dict") (r := false) (by decide +kernel) | exact kit_ty (a := "dict") (r := true) (by decide +kernel)
def rIsiM (g : Pw) (t : Ty) : List V → Hp → VK → Prop := fun xs H Q => ∃ F x d, xs = [x, .ty t.name] ∧ t ≠ .lt ∧ WOk g F H x d ∧ Q (.bl (tyD t d)) H
theorem cb_isi (hg : g = ⟨X.prog, X.w⟩) (t : Ty) : CallR X (.builtin "isinstance") (rIsiM g t) := by
  intro pins s σ H xs us Q I r h
  obtain ⟨F, x, d, rfl, ht, hx, q⟩ := h
  obtain ⟨u1, u2, rfl, r1, r2⟩ := vals2 r
  cases (show u2 = Value.type t.name from r2)
  obtain ⟨P, Z, p, hne⟩ := kit_data hg I hx r1
  exact PySem.W.kia_one Z I.kIn p (kit_tys t d ht X.K) hne fun tk => ⟨.bl _, H, I.tok tk, rfl, q⟩
end
end Mn
end
section
set_option linter.all false
set_option autoImplicit false
set_option maxRecDepth 100000
/-! Mini: what is walked: lists, tuples, texts, ranges, zips of two and three, enumerate. -/
namespace Mn
open PySem PySem.Spec PyProof.Rows L2

/-- an iterator that hands out new tuples -/
structure TurnT (P : Program) (w : World) (K : PySem.W.Frag) (J : L2.It) (fp : List Addr) (z : Addr) (tn : Nat → Heap → Prop) : Prop where
  mem : z ∈ fp
  obj : ∀ i h, tn i h → ∀ b ∈ fp, ∃ o, h.get? b = some o ∧ ∀ v, o.data ≠ .cell v
  keep : ∀ i h h', tn i h → (∀ b ∈ fp, ∀ o, h.get? b = some o → h'.get? b = some o) → tn i h'
  item : ∀ (X : Cx), X.prog = P → X.w = w → X.K = K → X.calm = true → ∀ (i : Nat) (pins : List (Addr × Obj)) (s : Shared) (σ : L2.St) (H : Hp), Inv X pins σ H s → (∀ b ∈ fp, FpOk X pins H b) → tn i s.heap → J.go i H →
    ∃ fp' wr n Pt St Mid, WalksT P w X.A z fp' wr n Pt St Mid ∧ i < n ∧ St i s.heap ∧ (∀ b ∈ wr, b ∈ fp) ∧ (∀ h', St (i + 1) h' → tn (i + 1) h') ∧
      ∀ vals, Pt i vals → ∃ xs, Vals xs vals.toList ∧ xs.length ≤ sizeLine ∧ ∀ T, H T = none → J.yld i H (.ref T) (upd H T (.tup xs))
  done : ∀ (X : Cx), X.prog = P → X.w = w → X.K = K → X.calm = true → ∀ (i : Nat) (pins : List (Addr × Obj)) (s : Shared) (σ : L2.St) (H : Hp), Inv X pins σ H s → (∀ b ∈ fp, FpOk X pins H b) → tn i s.heap → J.stop i H →
    ∃ fp' wr n Pt St Mid, WalksT P w X.A z fp' wr n Pt St Mid ∧ i = n ∧ St i s.heap ∧ ∀ b ∈ wr, b ∈ fp
  self : ∀ (A : Around) (i : Nat) (s : Shared) (Q : Value → Shared → Prop) (E : Value → Shared → Prop), tn i s.heap → Q (.ref z) s → wpAny (model P w) A (pyIter (.ref z)) Q E s
theorem TurnT.turn {P : Program} {w : World} {K : PySem.W.Frag} {J : L2.It} {fp : List Addr} {z : Addr} {tn : Nat → Heap → Prop} (T : TurnT P w K J fp z tn) {elts : List Expr} {kk : Nat} {tpos : Pos} : Turn P w K (.Tuple elts kk tpos) J fp z tn where
  mem := T.mem
  obj := T.obj
  keep := T.keep
  item := by
    intro X hP hw hK hc i pins s σ H E I hf st hg
    obtain ⟨fp', wr, n, Pt, St, Mid, W, hi, hs, hwr, htn, hv⟩ := T.item X hP hw hK hc i pins s σ H I hf st hg
    subst hP hw hK
    refine W.item i s _ _ hi hs fun D vals h' tk hP hD hT hM hk => ?_
    refine ⟨_, rfl, W.go elts kk tpos i D { s with heap := h', toks := tk } _ _ hM fun h'' st'' hk2 => ?_⟩
    obtain ⟨xs, rv, hz, hy⟩ := hv vals hP
    have hDw : D ∉ wr := W.apart i D h' hM
    obtain ⟨ob, e1, e2, e3⟩ := hT
    have new : ObjOk X.prog X.w (upd H D (.tup xs)) h'' D (.tup xs) := ⟨hz, vals.toList, rv, ob, hk2 _ _ hDw e1, e2, by simpa using e3⟩
    have I1 : Inv X pins σ (upd H D (.tup xs)) { s with heap := h'', toks := tk } := I.turnedNew (ch := wr) (fun b o hb q => hk2 b o hb (hk b o hb q)) (fun b hb => hf b (hwr b hb)) hD new
    have hn : H D = none := I.hok.fresh hD
    refine ⟨.ref D, _, I1, rfl, hy D hn, htn _ st'', fun b hb => ?_⟩
    obtain ⟨o, eo, _⟩ := T.obj _ _ st b hb
    rw [upd_ne (Nat.ne_of_lt (Nat.lt_of_lt_of_le (Heap.lt_size eo) hD))]
    exact (hf b hb).1
  done := by
    intro X hP hw hK hc i pins s σ H E I hf st hg
    obtain ⟨fp', wr, n, Pt, St, Mid, W, hi, hs, hwr⟩ := T.done X hP hw hK hc i pins s σ H I hf st hg
    subst hP hw hK hi
    exact W.done s _ _ hs fun h' tk hk => ⟨rfl, I.turnedL (ch := wr) hk fun b hb => hf b (hwr b hb)⟩
  self := T.self

/-! ### a list or a tuple, as it stands -/
def SqB (b : Bool) (K : PySem.W.Frag) (H : Hp) (a : Addr) (xs : List V) : Prop := if b then SqL K H a xs else SqT K H a xs
def IterB (b : Bool) (h : Heap) (it l : Addr) (i : Nat) : Prop := if b then h.IsListIter it l i else h.IsTupleIter it l i
def HoldB (b : Bool) (h : Heap) (l : Addr) (its : Array Value) : Prop := if b then h.IsList l its else h.IsTuple l its
def iterO (b : Bool) (l : Addr) : Obj := { cls := .type (if b then "list_iterator" else "tuple_iterator"), data := .fields #[.ref l, .int 0 0] }
theorem SqB.hold {X : Cx} {pins : List (Addr × Obj)} {σ : L2.St} {H : Hp} {s : Shared} {b : Bool} {a : Addr} {xs : List V} (I : Inv X pins σ H s) (h : SqB b X.K H a xs) : ∃ its : List Value, Vals xs its ∧ HoldB b s.heap a its.toArray ∧ xs.length ≤ sizeLine := by
  cases b with
  | true =>
    obtain ⟨its, r, p, z⟩ := I.list (show SqL X.K H a xs from h)
    exact ⟨its, r, p.isList, z⟩
  | false =>
    obtain ⟨its, r, p, z⟩ := I.tuple (show SqT X.K H a xs from h)
    exact ⟨its, r, p, z⟩
theorem HoldB.inj {b : Bool} {h : Heap} {a : Addr} {x y : Array Value} (p : HoldB b h a x) (q : HoldB b h a y) : x = y := by
  cases b with
  | true =>
    obtain ⟨o, e1, _, n, d1⟩ := p
    obtain ⟨o', e2, _, n', d2⟩ := q
    rw [e1] at e2; cases e2; rw [d1] at d2; cases d2; rfl
  | false =>
    obtain ⟨o, e1, _, n, d1⟩ := p
    obtain ⟨o', e2, _, n', d2⟩ := q
    rw [e1] at e2; cases e2; rw [d1] at d2; cases d2; rfl
theorem drawB {prog : Program} {w : World} {A : Around} (b : Bool) (hh : A.handled = none) (it l : Addr) (hne : l ≠ it) (items : Array Value) :
    Draws prog w A it [it, l] items.size (fun i v => items[i]? = some v) (fun i h => IterB b h it l i ∧ HoldB b h l items) := by
  cases b with
  | true => exact Draws.list hh it l hne items
  | false => exact Draws.tuple hh it l hne items
theorem IterB.obj {b : Bool} {h : Heap} {it l : Addr} {i : Nat} (p : IterB b h it l i) : ∃ o, h.get? it = some o ∧ ∀ v, o.data ≠ .cell v := by
  cases b with
  | true => obtain ⟨o, e, _, d⟩ := p; exact ⟨o, e, fun v q => by rw [d] at q; cases q⟩
  | false => obtain ⟨o, e, _, d⟩ := p; exact ⟨o, e, fun v q => by rw [d] at q; cases q⟩
theorem IterB.at {b : Bool} {h h' : Heap} {it l : Addr} {i : Nat} (p : IterB b h it l i) (k : ∀ o, h.get? it = some o → h'.get? it = some o) : IterB b h' it l i := by
  cases b with
  | true => exact Heap.IsListIter.at p k
  | false => exact Heap.IsTupleIter.at p k
theorem IterB.new {b : Bool} {h : Heap} {it l : Addr} (e : h.get? it = some (iterO b l)) : IterB b h it l 0 := by
  cases b with
  | true => exact ⟨_, e, rfl, rfl⟩
  | false => exact ⟨_, e, rfl, rfl⟩
theorem beginsB (b : Bool) (l : Addr) (items : Array Value) : Begins (.ref l) (iterO b l) fun h => HoldB b h l items := by
  cases b with
  | true => exact begins_list l items
  | false => exact begins_tuple l items
theorem SqB.inj {X : Cx} {pins : List (Addr × Obj)} {σ : L2.St} {H : Hp} {s : Shared} {b : Bool} {a : Addr} {xs ys : List V} (I : Inv X pins σ H s) (h : SqB b X.K H a xs) (h' : SqB b X.K H a ys) : xs = ys := by
  cases b with
  | true => exact I.list_inj h h'
  | false => exact I.tuple_inj h h'

/-! ### zip of two -/
def ItzB (K : PySem.W.Frag) (k l : Bool) (a b : Addr) : L2.It :=
  ⟨fun i H => ∃ (xs ys : List V), SqB k K H a xs ∧ SqB l K H b ys ∧ i < xs.length ∧ i < ys.length,
    fun i H v H' => ∃ T x y, v = .ref T ∧ H T = none ∧ H' = upd H T (.tup [x, y]) ∧ ∀ xs ys, SqB k K H a xs → SqB l K H b ys → xs[i]? = some x ∧ ys[i]? = some y,
    fun i H => ∃ xs ys : List V, SqB k K H a xs ∧ SqB l K H b ys ∧ i = min xs.length ys.length⟩
theorem turn_zipB {P : Program} {w : World} {K : PySem.W.Frag} {k l : Bool} {a b z TI TO i1 i2 : Addr} (S : ZipSep2 z TI TO i1 i2 [i1, a] [i2, b]) (na : a ≠ i1) (nb : b ≠ i2) :
    TurnT P w K (ItzB K k l a b) [z, TI, TO, i1, i2] z (fun i h => IsZip h z TI TO .none ∧ IsTupOf2 h TI (.ref i1) (.ref i2) ∧ (∃ x y, IsTupOf2 h TO x y) ∧ IterB k h i1 a i ∧ IterB l h i2 b i) where
  mem := by simp
  obj := fun i h st c hc => by
    obtain ⟨hz, hTI, ⟨x, y, hTO⟩, h1, h2⟩ := st
    have e' : c = z ∨ c = TI ∨ c = TO ∨ c = i1 ∨ c = i2 := by simpa using hc
    rcases e' with q | q | q | q | q
    · rw [q]; exact ⟨_, hz, fun v q => nomatch q⟩
    · rw [q]; exact ⟨_, hTI, fun v q => nomatch q⟩
    · rw [q]; exact ⟨_, hTO, fun v q => nomatch q⟩
    · rw [q]; exact h1.obj
    · rw [q]; exact h2.obj
  keep := fun i h h' st k => by
    obtain ⟨hz, hTI, ⟨x, y, hTO⟩, h1, h2⟩ := st
    exact ⟨k z (by simp) _ hz, k TI (by simp) _ hTI, ⟨x, y, k TO (by simp) _ hTO⟩, h1.at fun o q => k i1 (by simp) o q, h2.at fun o q => k i2 (by simp) o q⟩
  item := by
    intro X hP hw hK hc i pins s σ H I hf st hg
    subst hP hw hK
    obtain ⟨hz, hTI, hTO, h1, h2⟩ := st
    obtain ⟨xs, ys, hqx, hqy, hx, hy⟩ := hg
    obtain ⟨its, rv, p, _⟩ := hqx.hold I
    obtain ⟨its2, rv2, p2, _⟩ := hqy.hold I
    have l1 := rv.length
    have l2 := rv2.length
    have hd : X.A.in1.handled = none := I.ok.hd hc
    refine ⟨_, _, _, _, _, _, WalksT.zipD2 S (drawB k hd i1 a na its.toArray) (drawB l hd i2 b nb its2.toArray), ?_, ⟨hz, hTI, hTO, ⟨h1, p⟩, h2, p2⟩, fun c hc => ?_, fun h' q => ?_, fun vals q => ?_⟩
    · simp only [List.size_toArray]; omega
    · have e' : c = z ∨ c = TO ∨ c = i1 ∨ c = i2 := by simpa using hc
      rcases e' with q | q | q | q <;> simp [q]
    · obtain ⟨q1, q2, q3, q4, q5⟩ := q
      exact ⟨q1, q2, q3, q4.1, q5.1⟩
    · obtain ⟨x1, x2, e1, e2, rfl⟩ := q
      obtain ⟨u, hu, ru⟩ := rv.get (i := i) (List.getElem?_eq_getElem hx)
      obtain ⟨u2, hu2, ru2⟩ := rv2.get (i := i) (List.getElem?_eq_getElem hy)
      rw [List.getElem?_toArray, hu] at e1
      rw [List.getElem?_toArray, hu2] at e2
      cases e1; cases e2
      refine ⟨[xs[i], ys[i]], .cons ru (.cons ru2 .nil), by show 2 ≤ sizeLine; decide, fun T hT => ⟨T, _, _, rfl, hT, rfl, fun xs' ys' g1 g2 => ?_⟩⟩
      have z1 := g1.inj I hqx
      have z2 := g2.inj I hqy
      subst z1 z2
      exact ⟨List.getElem?_eq_getElem hx, List.getElem?_eq_getElem hy⟩
  done := by
    intro X hP hw hK hc i pins s σ H I hf st hg
    subst hP hw hK
    obtain ⟨hz, hTI, hTO, h1, h2⟩ := st
    obtain ⟨xs, ys, hqx, hqy, he⟩ := hg
    obtain ⟨its, rv, p, _⟩ := hqx.hold I
    obtain ⟨its2, rv2, p2, _⟩ := hqy.hold I
    have l1 := rv.length
    have l2 := rv2.length
    have hd : X.A.in1.handled = none := I.ok.hd hc
    refine ⟨_, _, _, _, _, _, WalksT.zipD2 S (drawB k hd i1 a na its.toArray) (drawB l hd i2 b nb its2.toArray), ?_, ⟨hz, hTI, hTO, ⟨h1, p⟩, h2, p2⟩, fun c hc => ?_⟩
    · simp only [List.size_toArray]; omega
    · have e' : c = z ∨ c = TO ∨ c = i1 ∨ c = i2 := by simpa using hc
      rcases e' with q | q | q | q <;> simp [q]
  self := fun A i s Q E st h => wpAny_pyIter_zip st.1 h
def iZipB (K : PySem.W.Frag) (ta : TA) : TI := fun σ H R => ta σ H fun vs H1 => ∃ k l a b xs ys, vs = [.ref a, .ref b] ∧ SqB k K H1 a xs ∧ SqB l K H1 b ys ∧ R (ItzB K k l a b) H1
theorem fp_new {X : Cx} {pins : List (Addr × Obj)} {σ : L2.St} {H : Hp} {s s1 : Shared} (I : Inv X pins σ H s) (N : Nat) (hN : s.heap.objs.size = N) {c : Addr} (h : N ≤ c) : FpOk X pins H c := by
  subst hN
  exact I.fpOk h (I.hok.fresh h)
theorem pi_zipB {X : Cx} {e e2 : Expr} {ta : TA} {p pos tpos : Pos} {elts : List Expr} {kk : Nat} (hg : Gl X "zip") (hm : X.mg "zip" = none) (ha : PA X [e, e2] ta)
    (hs : starEach [e, e2] X.env = (false, eval e X.env) :: starEach [e2] X.env) (hpl : (backTo pos (starEach [e2] X.env)).any (·.1) = false) :
    PI X (.Tuple elts kk tpos) (.Call (.Name "zip" p) [e, e2] [] pos) (iZipB X.K ta) := by
  refine ⟨fun pins s σ H R I h => ?_⟩
  refine Call_ (ld_blt I hg hm PyProof.Rows.boot_zip (PyProof.Rows.callWith_type1 (thn (ha.run pos pins s σ H _ I h) fun us s1 ⟨vs, H1, I1, r1, q1⟩ => ?_) hs hpl))
  obtain ⟨k, l, a, b, xs, ys, ex, hqx, hqy, q⟩ := q1
  subst ex
  obtain ⟨u1, u2, rfl, r, r'⟩ := vals2 r1
  cases r
  cases r'
  obtain ⟨its, rv, p1, _⟩ := hqx.hold I1
  obtain ⟨its2, rv2, p2, _⟩ := hqy.hold I1
  have la : a < s1.heap.objs.size := by
    cases k with
    | true => obtain ⟨_, e, _⟩ := p1; exact Heap.lt_size e
    | false => obtain ⟨_, e, _⟩ := p1; exact Heap.lt_size e
  have lb : b < s1.heap.objs.size := by
    cases l with
    | true => obtain ⟨_, e, _⟩ := p2; exact Heap.lt_size e
    | false => obtain ⟨_, e, _⟩ := p2; exact Heap.lt_size e
  refine zip_begins2 (beginsB k a its.toArray) (beginsB l b its2.toArray) p1 p2 fun h' hz hTI hTO g1 g2 hsz hk => wpAny_pyIter_zip hz ?_
  have I2 : Inv X pins σ H1 { s1 with heap := h' } := I1.kept (t' := s1.toks) hk
  have S := zip_sep2 (N := s1.heap.objs.size) (fp1 := [a]) (fp2 := [b]) (fun c hc => by rw [List.mem_singleton.mp hc]; exact la) (fun c hc => by rw [List.mem_singleton.mp hc]; exact lb)
  refine ⟨s1.heap.objs.size + 4, [s1.heap.objs.size + 4, s1.heap.objs.size + 2, s1.heap.objs.size + 3, s1.heap.objs.size, s1.heap.objs.size + 1], _, _, H1, rfl, I2,
    (turn_zipB S (Nat.ne_of_lt la) (Nat.ne_of_lt (Nat.lt_succ_of_lt lb))).turn, ⟨hz, hTI, ⟨_, _, hTO⟩, .new g1, .new g2⟩, fun c hcm => ?_, q⟩
  have e' : c = s1.heap.objs.size + 4 ∨ c = s1.heap.objs.size + 2 ∨ c = s1.heap.objs.size + 3 ∨ c = s1.heap.objs.size ∨ c = s1.heap.objs.size + 1 := by simpa using hcm
  have hle : s1.heap.objs.size ≤ c := by
    rcases e' with z | z | z | z | z <;> rw [z] <;> first | exact Nat.le_add_right _ _ | exact Nat.le_refl _
  exact I1.fpOk hle (I1.hok.fresh hle)

/-! ### zip of three -/
def ItzC (K : PySem.W.Frag) (k l m : Bool) (a b c : Addr) : L2.It :=
  ⟨fun i H => ∃ (xs ys zs : List V), SqB k K H a xs ∧ SqB l K H b ys ∧ SqB m K H c zs ∧ i < xs.length ∧ i < ys.length ∧ i < zs.length,
    fun i H v H' => ∃ T x y z, v = .ref T ∧ H T = none ∧ H' = upd H T (.tup [x, y, z]) ∧ ∀ xs ys zs, SqB k K H a xs → SqB l K H b ys → SqB m K H c zs → xs[i]? = some x ∧ ys[i]? = some y ∧ zs[i]? = some z,
    fun i H => ∃ xs ys zs : List V, SqB k K H a xs ∧ SqB l K H b ys ∧ SqB m K H c zs ∧ i = min (min xs.length ys.length) zs.length⟩
theorem turn_zipC {P : Program} {w : World} {K : PySem.W.Frag} {k l m : Bool} {a b d z TI TO i1 i2 i3 : Addr} (S : ZipSep3 z TI TO i1 i2 i3 [i1, a] [i2, b] [i3, d]) (na : a ≠ i1) (nb : b ≠ i2) (nd : d ≠ i3) :
    TurnT P w K (ItzC K k l m a b d) [z, TI, TO, i1, i2, i3] z (fun i h => IsZip h z TI TO .none ∧ IsTupOf3 h TI (.ref i1) (.ref i2) (.ref i3) ∧ (∃ x y u, IsTupOf3 h TO x y u) ∧ IterB k h i1 a i ∧ IterB l h i2 b i ∧ IterB m h i3 d i) where
  mem := by simp
  obj := fun i h st c hc => by
    obtain ⟨hz, hTI, ⟨x, y, u, hTO⟩, h1, h2, h3⟩ := st
    have e' : c = z ∨ c = TI ∨ c = TO ∨ c = i1 ∨ c = i2 ∨ c = i3 := by simpa using hc
    rcases e' with q | q | q | q | q | q
    · rw [q]; exact ⟨_, hz, fun v q => nomatch q⟩
    · rw [q]; exact ⟨_, hTI, fun v q => nomatch q⟩
    · rw [q]; exact ⟨_, hTO, fun v q => nomatch q⟩
    · rw [q]; exact h1.obj
    · rw [q]; exact h2.obj
    · rw [q]; exact h3.obj
  keep := fun i h h' st k => by
    obtain ⟨hz, hTI, ⟨x, y, u, hTO⟩, h1, h2, h3⟩ := st
    exact ⟨k z (by simp) _ hz, k TI (by simp) _ hTI, ⟨x, y, u, k TO (by simp) _ hTO⟩, h1.at fun o q => k i1 (by simp) o q, h2.at fun o q => k i2 (by simp) o q, h3.at fun o q => k i3 (by simp) o q⟩
  item := by
    intro X hP hw hK hc i pins s σ H I hf st hg
    subst hP hw hK
    obtain ⟨hz, hTI, hTO, h1, h2, h3⟩ := st
    obtain ⟨xs, ys, zs, hqx, hqy, hqz, hx, hy, hzz⟩ := hg
    obtain ⟨its, rv, p, _⟩ := hqx.hold I
    obtain ⟨its2, rv2, p2, _⟩ := hqy.hold I
    obtain ⟨its3, rv3, p3, _⟩ := hqz.hold I
    have l1 := rv.length
    have l2 := rv2.length
    have l3 := rv3.length
    have hd : X.A.in1.handled = none := I.ok.hd hc
    refine ⟨_, _, _, _, _, _, WalksT.zipD3 S (drawB k hd i1 a na its.toArray) (drawB l hd i2 b nb its2.toArray) (drawB m hd i3 d nd its3.toArray), ?_, ⟨hz, hTI, hTO, ⟨h1, p⟩, ⟨h2, p2⟩, h3, p3⟩, fun c hc => ?_, fun h' q => ?_, fun vals q => ?_⟩
    · simp only [List.size_toArray]; omega
    · have e' : c = z ∨ c = TO ∨ c = i1 ∨ c = i2 ∨ c = i3 := by simpa using hc
      rcases e' with q | q | q | q | q <;> simp [q]
    · obtain ⟨q1, q2, q3, q4, q5, q6⟩ := q
      exact ⟨q1, q2, q3, q4.1, q5.1, q6.1⟩
    · obtain ⟨x1, x2, x3, e1, e2, e3, rfl⟩ := q
      obtain ⟨u, hu, ru⟩ := rv.get (i := i) (List.getElem?_eq_getElem hx)
      obtain ⟨u2, hu2, ru2⟩ := rv2.get (i := i) (List.getElem?_eq_getElem hy)
      obtain ⟨u3, hu3, ru3⟩ := rv3.get (i := i) (List.getElem?_eq_getElem hzz)
      rw [List.getElem?_toArray, hu] at e1
      rw [List.getElem?_toArray, hu2] at e2
      rw [List.getElem?_toArray, hu3] at e3
      cases e1; cases e2; cases e3
      refine ⟨[xs[i], ys[i], zs[i]], .cons ru (.cons ru2 (.cons ru3 .nil)), by show 3 ≤ sizeLine; decide, fun T hT => ⟨T, _, _, _, rfl, hT, rfl, fun xs' ys' zs' g1 g2 g3 => ?_⟩⟩
      have z1 := g1.inj I hqx
      have z2 := g2.inj I hqy
      have z3 := g3.inj I hqz
      subst z1 z2 z3
      exact ⟨List.getElem?_eq_getElem hx, List.getElem?_eq_getElem hy, List.getElem?_eq_getElem hzz⟩
  done := by
    intro X hP hw hK hc i pins s σ H I hf st hg
    subst hP hw hK
    obtain ⟨hz, hTI, hTO, h1, h2, h3⟩ := st
    obtain ⟨xs, ys, zs, hqx, hqy, hqz, he⟩ := hg
    obtain ⟨its, rv, p, _⟩ := hqx.hold I
    obtain ⟨its2, rv2, p2, _⟩ := hqy.hold I
    obtain ⟨its3, rv3, p3, _⟩ := hqz.hold I
    have l1 := rv.length
    have l2 := rv2.length
    have l3 := rv3.length
    have hd : X.A.in1.handled = none := I.ok.hd hc
    refine ⟨_, _, _, _, _, _, WalksT.zipD3 S (drawB k hd i1 a na its.toArray) (drawB l hd i2 b nb its2.toArray) (drawB m hd i3 d nd its3.toArray), ?_, ⟨hz, hTI, hTO, ⟨h1, p⟩, ⟨h2, p2⟩, h3, p3⟩, fun c hc => ?_⟩
    · simp only [List.size_toArray]; omega
    · have e' : c = z ∨ c = TO ∨ c = i1 ∨ c = i2 ∨ c = i3 := by simpa using hc
      rcases e' with q | q | q | q | q <;> simp [q]
  self := fun A i s Q E st h => wpAny_pyIter_zip st.1 h
theorem vals3 {x y z : V} {us : List Value} (r : Vals [x, y, z] us) : ∃ u v w, us = [u, v, w] ∧ RelV x u ∧ RelV y v ∧ RelV z w := by
  cases r with
  | cons r1 r =>
    cases r with
    | cons r2 r =>
      cases r with
      | cons r3 r => cases r; exact ⟨_, _, _, rfl, r1, r2, r3⟩
theorem HoldB.lt {b : Bool} {h : Heap} {a : Addr} {x : Array Value} (p : HoldB b h a x) : a < h.objs.size := by
  cases b with
  | true => obtain ⟨_, e, _⟩ := p; exact Heap.lt_size e
  | false => obtain ⟨_, e, _⟩ := p; exact Heap.lt_size e
def iZipC (K : PySem.W.Frag) (ta : TA) : TI := fun σ H R => ta σ H fun vs H1 => ∃ k l m a b c xs ys zs, vs = [.ref a, .ref b, .ref c] ∧ SqB k K H1 a xs ∧ SqB l K H1 b ys ∧ SqB m K H1 c zs ∧ R (ItzC K k l m a b c) H1
theorem pi_zipC {X : Cx} {e e2 e3 : Expr} {ta : TA} {p pos tpos : Pos} {elts : List Expr} {kk : Nat} (hg : Gl X "zip") (hm : X.mg "zip" = none) (ha : PA X [e, e2, e3] ta)
    (hs : starEach [e, e2, e3] X.env = (false, eval e X.env) :: starEach [e2, e3] X.env) (hpl : (backTo pos (starEach [e2, e3] X.env)).any (·.1) = false) :
    PI X (.Tuple elts kk tpos) (.Call (.Name "zip" p) [e, e2, e3] [] pos) (iZipC X.K ta) := by
  refine ⟨fun pins s σ H R I h => ?_⟩
  refine Call_ (ld_blt I hg hm PyProof.Rows.boot_zip (PyProof.Rows.callWith_type1 (thn (ha.run pos pins s σ H _ I h) fun us s1 ⟨vs, H1, I1, r1, q1⟩ => ?_) hs hpl))
  obtain ⟨k, l, m, a, b, d, xs, ys, zs, ex, hqx, hqy, hqz, q⟩ := q1
  subst ex
  obtain ⟨u1, u2, u3, rfl, r, r', r''⟩ := vals3 r1
  cases r
  cases r'
  cases r''
  obtain ⟨its, rv, p1, _⟩ := hqx.hold I1
  obtain ⟨its2, rv2, p2, _⟩ := hqy.hold I1
  obtain ⟨its3, rv3, p3, _⟩ := hqz.hold I1
  have la := p1.lt
  have lb := p2.lt
  have ld := p3.lt
  refine zip_begins3 (beginsB k a its.toArray) (beginsB l b its2.toArray) (beginsB m d its3.toArray) p1 p2 p3 fun h' hz hTI hTO g1 g2 g3 hsz hk => wpAny_pyIter_zip hz ?_
  have I2 : Inv X pins σ H1 { s1 with heap := h' } := I1.kept (t' := s1.toks) hk
  have S := zip_sep3 (N := s1.heap.objs.size) (fp1 := [a]) (fp2 := [b]) (fp3 := [d]) (fun c hc => by rw [List.mem_singleton.mp hc]; exact la) (fun c hc => by rw [List.mem_singleton.mp hc]; exact lb) (fun c hc => by rw [List.mem_singleton.mp hc]; exact ld)
  refine ⟨s1.heap.objs.size + 5, [s1.heap.objs.size + 5, s1.heap.objs.size + 3, s1.heap.objs.size + 4, s1.heap.objs.size, s1.heap.objs.size + 1, s1.heap.objs.size + 2], _, _, H1, rfl, I2,
    (turn_zipC S (Nat.ne_of_lt la) (Nat.ne_of_lt (Nat.lt_succ_of_lt lb)) (Nat.ne_of_lt (Nat.lt_succ_of_lt (Nat.lt_succ_of_lt ld)))).turn, ⟨hz, hTI, ⟨_, _, _, hTO⟩, .new g1, .new g2, .new g3⟩, fun c hcm => ?_, q⟩
  have e' : c = s1.heap.objs.size + 5 ∨ c = s1.heap.objs.size + 3 ∨ c = s1.heap.objs.size + 4 ∨ c = s1.heap.objs.size ∨ c = s1.heap.objs.size + 1 ∨ c = s1.heap.objs.size + 2 := by simpa using hcm
  have hle : s1.heap.objs.size ≤ c := by
    rcases e' with z | z | z | z | z | z <;> rw [z] <;> first | exact Nat.le_add_right _ _ | exact Nat.le_refl _
  exact I1.fpOk hle (I1.hok.fresh hle)
end Mn
end
section
set_option linter.all false
set_option autoImplicit false
set_option maxRecDepth 100000
/-! Mini: enumerate over a list or a tuple. -/
namespace PySem
open Sem (wp)
set_option maxHeartbeats 1000000 in
theorem meets_enumerate_newG {v : Value} {o : Obj} {H : Heap → Prop} (B : Begins v o H) :
    Meets (Builtin.«enumerate.__new__» ⟨[.type "enumerate", v], []⟩) (fun _ R s => H s.heap ∧
      R (.ok (.ret (.ref (s.heap.push o).objs.size))) { s with heap := (s.heap.push o).push { cls := .type "enumerate", data := .fields #[.none, .bool false, .ref s.heap.objs.size, rawInt 0, .none, .none] } }) :=
  .of_wp fun prog w A R s h => by
    obtain ⟨hp, g, d, tk, os⟩ := s; obtain ⟨h1, h⟩ := h
    have hsub := sub_enumerate
    have q1 : ∀ {A' : Around} {E : Value → Shared → Prop} {Q : Value → Shared → Prop}, Q (.ref hp.objs.size) ⟨hp.push o, g, d, tk, os⟩ → wpAny (model prog w) A' (pyIter v) Q E ⟨hp, g, d, tk, os⟩ :=
      fun q => B.iter prog w _ _ ⟨hp, g, d, tk, os⟩ _ h1 q
    wp_walk using q1
    refine wpAny_stack_any fun st => wpAny_pure ?_
    split
    · rename_i c _ _ _ _ _
      cases (c == Value.type "enumerate")
      · wp_walk using q1
        exact ⟨_, rfl, h⟩
      · wp_walk using q1
        exact ⟨_, rfl, h⟩
    · wp_walk using q1
      exact ⟨_, rfl, h⟩
theorem enum_begins1 {prog : Program} {w : World} {A : Around} {E : Value → Shared → Prop} {s : Shared} {v : Value} {o : Obj} {H : Heap → Prop} {Q : Value → Shared → Prop} (B : Begins v o H) (h1 : H s.heap)
    (h : ∀ h', IsEnum h' (s.heap.objs.size + 1) s.heap.objs.size 0 .none → h'.get? s.heap.objs.size = some o → h'.objs.size = s.heap.objs.size + 2 →
      (∀ b o, s.heap.get? b = some o → h'.get? b = some o) → Q (.ref (s.heap.objs.size + 1)) { s with heap := h' }) :
    wpAny (model prog w) A (call (.type "enumerate") [v]) Q E s := by
  refine callType_new F.called_enumerate (by decide) (F.typeCall_enumerate_1 _) (F.newCall_enumerate_1 _) (fun obj => F.args_object_init_2 obj _) F.entry_enumerate_new
    (meets_enumerate_newG B) ⟨h1, ?_⟩
  have hz : (s.heap.push o).objs.size = s.heap.objs.size + 1 := Heap.size_push ..
  show _ ∧ _
  rw [hz]
  have he : IsEnum ((s.heap.push o).push { cls := .type "enumerate", data := .fields #[.none, .bool false, .ref s.heap.objs.size, rawInt 0, .none, .none] }) (s.heap.objs.size + 1) s.heap.objs.size 0 .none := by
    have := Heap.get?_push_size (s.heap.push o) (o := { cls := .type "enumerate", data := .fields #[.none, .bool false, .ref s.heap.objs.size, rawInt 0, .none, .none] }) rfl
    rw [hz] at this; exact this
  refine ⟨⟨_, he, rfl⟩, h _ he (Heap.get?_push_of_some _ (Heap.get?_push_size _ B.free)) (by rw [Heap.size_push, hz]) fun b o x => Heap.get?_push_of_some _ (Heap.get?_push_of_some _ x)⟩
end PySem
namespace Mn
open PySem PySem.Spec PyProof.Rows L2
def IteB (K : PySem.W.Frag) (k : Bool) (a : Addr) : L2.It :=
  ⟨fun i H => ∃ xs : List V, SqB k K H a xs ∧ i < xs.length,
    fun i H v H' => ∃ T x, v = .ref T ∧ H T = none ∧ H' = upd H T (.tup [.int (i : Nat), x]) ∧ ∀ xs, SqB k K H a xs → xs[i]? = some x,
    fun i H => ∃ xs : List V, SqB k K H a xs ∧ i = xs.length⟩
theorem turn_enumB {P : Program} {w : World} {K : PySem.W.Frag} {k : Bool} {a e it : Addr} (na : a ≠ it) (ne : e ≠ it) (nae : a ≠ e) :
    TurnT P w K (IteB K k a) [e, it] e (fun i h => (∃ old, IsEnum h e it (i : Nat) old) ∧ IterB k h it a i) where
  mem := by simp
  obj := fun i h st c hc => by
    obtain ⟨⟨old, he⟩, h1⟩ := st
    have e' : c = e ∨ c = it := by simpa using hc
    rcases e' with q | q
    · rw [q]; exact ⟨_, he, fun v q => nomatch q⟩
    · rw [q]; exact h1.obj
  keep := fun i h h' st k => by
    obtain ⟨⟨old, he⟩, h1⟩ := st
    exact ⟨⟨old, k e (by simp) _ he⟩, h1.at fun o q => k it (by simp) o q⟩
  item := by
    intro X hP hw hK hc i pins s σ H I hf st hg
    subst hP hw hK
    obtain ⟨he, h1⟩ := st
    obtain ⟨xs, hqx, hx⟩ := hg
    obtain ⟨its, rv, p, _⟩ := hqx.hold I
    have l1 := rv.length
    have hd : X.A.in1.handled = none := I.ok.hd hc
    refine ⟨_, _, _, _, _, _, WalksT.enumerateD (drawB k hd it a na its.toArray) e ne (by simp; exact ⟨ne, Ne.symm nae⟩) (by simp), ?_, ⟨he, h1, p⟩, fun c hc => hc, fun h' q => ?_, fun vals q => ?_⟩
    · simp only [List.size_toArray]; omega
    · exact ⟨q.1, q.2.1⟩
    · obtain ⟨t, x1, e1, rfl⟩ := q
      obtain ⟨u, hu, ru⟩ := rv.get (i := i) (List.getElem?_eq_getElem hx)
      rw [List.getElem?_toArray, hu] at e1
      cases e1
      refine ⟨[.int (i : Nat), xs[i]], .cons ⟨t, rfl⟩ (.cons ru .nil), by show 2 ≤ sizeLine; decide, fun T hT => ⟨T, _, rfl, hT, rfl, fun xs' g1 => ?_⟩⟩
      have z1 := g1.inj I hqx
      subst z1
      exact List.getElem?_eq_getElem hx
  done := by
    intro X hP hw hK hc i pins s σ H I hf st hg
    subst hP hw hK
    obtain ⟨he, h1⟩ := st
    obtain ⟨xs, hqx, hx⟩ := hg
    obtain ⟨its, rv, p, _⟩ := hqx.hold I
    have l1 := rv.length
    have hd : X.A.in1.handled = none := I.ok.hd hc
    refine ⟨_, _, _, _, _, _, WalksT.enumerateD (drawB k hd it a na its.toArray) e ne (by simp; exact ⟨ne, Ne.symm nae⟩) (by simp), ?_, ⟨he, h1, p⟩, fun c hc => hc⟩
    simp only [List.size_toArray]; omega
  self := fun A i s Q E st h => let ⟨⟨_, he⟩, _⟩ := st; wpAny_pyIter_enum he h
def iEnumB (K : PySem.W.Frag) (ta : TA) : TI := fun σ H R => ta σ H fun vs H1 => ∃ k a xs, vs = [.ref a] ∧ SqB k K H1 a xs ∧ R (IteB K k a) H1
theorem pi_enumB {X : Cx} {e : Expr} {ta : TA} {p pos tpos : Pos} {elts : List Expr} {kk : Nat} (hg : Gl X "enumerate") (hm : X.mg "enumerate" = none) (ha : PA X [e] ta) (hs : starEach [e] X.env = [(false, eval e X.env)]) :
    PI X (.Tuple elts kk tpos) (.Call (.Name "enumerate" p) [e] [] pos) (iEnumB X.K ta) := by
  refine ⟨fun pins s σ H R I h => ?_⟩
  refine Call_ (ld_blt I hg hm boot_enumerate (PyProof.Rows.callWith_type1 (thn (ha.run pos pins s σ H _ I h) fun us s1 ⟨vs, H1, I1, r1, q1⟩ => ?_) hs rfl))
  obtain ⟨k, a, xs, ex, hqx, q⟩ := q1
  subst ex
  obtain ⟨u, rfl, r⟩ := vals1 r1
  cases r
  obtain ⟨its, rv, p1, _⟩ := hqx.hold I1
  have la := p1.lt
  refine enum_begins1 (beginsB k a its.toArray) p1 fun h' he g1 hsz hk => wpAny_pyIter_enum he ?_
  have I2 : Inv X pins σ H1 { s1 with heap := h' } := I1.kept (t' := s1.toks) hk
  refine ⟨s1.heap.objs.size + 1, [s1.heap.objs.size + 1, s1.heap.objs.size], _, _, H1, rfl, I2,
    (turn_enumB (Nat.ne_of_lt la) (Nat.succ_ne_self _) (Nat.ne_of_lt (Nat.lt_succ_of_lt la))).turn, ⟨⟨_, he⟩, .new g1⟩, fun b hb => ?_, q⟩
  have e' : b = s1.heap.objs.size + 1 ∨ b = s1.heap.objs.size := by simpa using hb
  have hle : s1.heap.objs.size ≤ b := by
    rcases e' with z | z <;> rw [z] <;> first | exact Nat.le_add_right _ _ | exact Nat.le_refl _
  exact I1.fpOk hle (I1.hok.fresh hle)
end Mn
end
section
set_option linter.all false
set_option autoImplicit false
set_option maxRecDepth 100000
/-! Mini: targets, what is walked. -/
namespace Mn
open PySem PySem.Spec PyProof.Rows L2

/-! ### names are set -/
section
variable {T : Stat} {B : Base} {w : Wd} {env : MEnv} {mh : MH} {σ : L2.St} {H : Hp}
theorem set_get {α : Type} {l : List α} {i j : Nat} {x y : α} (h : (l.set i x)[j]? = some y) : (j = i ∧ y = x) ∨ (j ≠ i ∧ l[j]? = some y) := by
  by_cases e : i = j
  · subst e
    by_cases hi : i < l.length
    · rw [List.getElem?_set_self hi] at h; cases h; exact .inl ⟨rfl, rfl⟩
    · rw [List.getElem?_eq_none (by simpa using hi)] at h; cases h
  · rw [List.getElem?_set_ne e] at h
    exact .inr ⟨fun z => e z.symm, h⟩
theorem Rel.setG {i : Nat} {v : V} {rv : RV} (R : Rel T B w env mh σ H) (r : RvOk T w H v rv)
    (hown : rv.own = true → ∀ a, v = .ref a → B.H a = none ∧ ∀ j rv', j ≠ i → env[j]? = some (some rv') → rv'.own = true → σ[j]? = some (some (.ref a)) → False) :
    Rel T B w (env.set i (some rv)) mh (σ.set i (some v)) H where
  h := R.h
  x := R.x
  e := {
    len := by rw [List.length_set, List.length_set]; exact R.e.len
    ok := fun j rv' h => by
      have hl : j < env.length := by
        by_cases q : j < env.length
        · exact q
        · rw [List.getElem?_eq_none (by simpa using q)] at h; cases h
      rcases set_get h with ⟨e1, e2⟩ | ⟨hj, h'⟩
      · cases e2
        subst e1
        exact ⟨v, List.getElem?_set_self (by rw [R.e.len]; exact hl), r⟩
      · obtain ⟨u, e, q⟩ := R.e.ok j rv' h'
        exact ⟨u, by rw [List.getElem?_set_ne (Ne.symm hj)]; exact e, q⟩
    own := fun a b rv1 rv2 ad hab h1 h2 o1 o2 s1 s2 => by
      rcases set_get h1 with ⟨e1, e1'⟩ | ⟨ha, h1'⟩
      · cases e1'
        rcases set_get h2 with ⟨e2, e2'⟩ | ⟨hb, h2'⟩
        · exact hab (e1.trans e2.symm)
        · rcases set_get s1 with ⟨_, q1⟩ | ⟨z, _⟩
          · cases q1
            rw [List.getElem?_set_ne (Ne.symm hb)] at s2
            exact (hown o1 ad rfl).2 b rv2 hb h2' o2 s2
          · exact z e1
      · rcases set_get h2 with ⟨e2, e2'⟩ | ⟨hb, h2'⟩
        · cases e2'
          rcases set_get s2 with ⟨_, q2⟩ | ⟨z, _⟩
          · cases q2
            rw [List.getElem?_set_ne (Ne.symm ha)] at s1
            exact (hown o2 ad rfl).2 a rv1 ha h1' o1 s1
          · exact z e2
        · rw [List.getElem?_set_ne (Ne.symm ha)] at s1
          rw [List.getElem?_set_ne (Ne.symm hb)] at s2
          exact R.e.own a b rv1 rv2 ad hab h1' h2' o1 o2 s1 s2 }
  own := fun j rv' a h o s => by
    rcases set_get h with ⟨e1, e2⟩ | ⟨hj, h'⟩
    · cases e2
      rcases set_get s with ⟨_, q⟩ | ⟨z, _⟩
      · cases q; exact (hown o a rfl).1
      · exact absurd e1 z
    · rw [List.getElem?_set_ne (Ne.symm hj)] at s
      exact R.own j rv' a h' o s
theorem Rel.setD {i : Nat} {v : V} {rv : RV} (R : Rel T B w env mh σ H) (r : RvOk T w H v rv) (ho : rv.own = false) : Rel T B w (env.set i (some rv)) mh (σ.set i (some v)) H :=
  R.setG r fun h => by rw [ho] at h; cases h
/-- a name's value is forgotten -/
theorem Rel.drop {i : Nat} {o : Option V} (R : Rel T B w env mh σ H) : Rel T B w (env.set i none) mh (σ.set i o) H where
  h := R.h
  x := R.x
  e := {
    len := by rw [List.length_set, List.length_set]; exact R.e.len
    ok := fun j rv' h => by
      rcases set_get h with ⟨_, e2⟩ | ⟨hj, h'⟩
      · cases e2
      · obtain ⟨u, e, q⟩ := R.e.ok j rv' h'
        exact ⟨u, by rw [List.getElem?_set_ne (Ne.symm hj)]; exact e, q⟩
    own := fun a b rv1 rv2 ad hab h1 h2 o1 o2 s1 s2 => by
      rcases set_get h1 with ⟨_, e2⟩ | ⟨ha, h1'⟩
      · cases e2
      rcases set_get h2 with ⟨_, e2⟩ | ⟨hb, h2'⟩
      · cases e2
      rw [List.getElem?_set_ne (Ne.symm ha)] at s1
      rw [List.getElem?_set_ne (Ne.symm hb)] at s2
      exact R.e.own a b rv1 rv2 ad hab h1' h2' o1 o2 s1 s2 }
  own := fun j rv' a h o s => by
    rcases set_get h with ⟨_, e2⟩ | ⟨hj, h'⟩
    · cases e2
    · rw [List.getElem?_set_ne (Ne.symm hj)] at s
      exact R.own j rv' a h' o s
theorem Rel.wipe {vs : List Nat} (R : Rel T B w env mh σ H) : Rel T B w (wipeM env vs) mh (L2.wipe σ vs) H := by
  induction vs with
  | nil => exact R
  | cons v vs ih => exact ih.drop
end

/-! ### targets -/
/-- a value that a target takes: data, or a tuple that is just made -/
def Bd (g : Pw) (F : Addr → Prop) (H : Hp) (x : V) (d : PyData) : Prop := Dv g F H x d ∨ ∃ p vs ds, x = .ref p ∧ H p = some (.tup vs) ∧ DvA g F H vs ds ∧ d = .tuple ds
def BdT : Tg → Pw → (Addr → Prop) → Hp → V → PyData → Prop
  | .nm _ => Dv
  | _ => Bd
theorem BdT.of {t : Tg} {g : Pw} {F : Addr → Prop} {H : Hp} {x : V} {d : PyData} (h : Dv g F H x d) : BdT t g F H x d := by
  cases t with
  | nm i => exact h
  | nil => exact .inl h
  | cons a b => exact .inl h
/-- the slots that a target sets -/
def Tg.slots : Tg → List Nat
  | .nm i => [i]
  | .nil => []
  | .cons t ts => t.slots ++ ts.slots
/-- alike but for these slots -/
def Near (vs : List Nat) (σ σ' : L2.St) : Prop := σ'.length = σ.length ∧ ∀ j, j ∉ vs → σ'[j]? = σ[j]?
theorem Near.refl {vs : List Nat} {σ : L2.St} : Near vs σ σ := ⟨rfl, fun _ _ => rfl⟩
theorem Near.trans {vs us : List Nat} {σ σ1 σ2 : L2.St} (a : Near vs σ σ1) (b : Near us σ1 σ2) : Near (vs ++ us) σ σ2 := ⟨b.1.trans a.1, fun j h => (b.2 j fun z => h (List.mem_append_right _ z)).trans (a.2 j fun z => h (List.mem_append_left _ z))⟩
def TGm (J : Jd) (t : Tg) : TG := fun v σ H Q => ∃ w env d env' mh, Rel J.T J.B w env mh σ H ∧ BdT t J.T.g w.F H v d ∧ bindT t d env = some env' ∧ ∀ σ', Rel J.T J.B w env' mh σ' H → Near t.slots σ σ' → Q σ' H
def TGsm (J : Jd) (t : Tg) : TGs := fun vs σ H Q => ∃ w env ds env' mh, Rel J.T J.B w env mh σ H ∧ DvA J.T.g w.F H vs ds ∧ bindT t (.tuple ds) env = some env' ∧ ∀ σ', Rel J.T J.B w env' mh σ' H → Near t.slots σ σ' → Q σ' H
section
variable {X : Cx} {J : Jd}
theorem PG.weak {e : Expr} {t t' : TG} (h : PG X e t) (k : ∀ v σ H Q, t' v σ H Q → t v σ H Q) : PG X e t' := ⟨fun pins s σ H v u Q I r q => h.run pins s σ H v u Q I r (k v σ H Q q)⟩
theorem PGs.weak {e : List Expr} {t t' : TGs} (h : PGs X e t) (k : ∀ v σ H Q, t' v σ H Q → t v σ H Q) : PGs X e t' := ⟨fun pins s σ H v u Q I r q => h.run pins s σ H v u Q I r (k v σ H Q q)⟩
theorem mg_nm {i : Nat} {x : Str} {pos : Pos} (hN : X.N.Nodup) (hi : X.N[i]? = some x) (hx : Loc X.env.scope x) (hf : X.fn x = true ∨ X.env.scope.names.lookup x = some .local) : PG X (.Name x pos) (TGm J (.nm i)) :=
  PG.weak (pg_name hN hi hx hf) fun v σ H Q ⟨w, env, d, env', mh, R, r, e, q⟩ => by
    have e : (if i < env.length then some (env.set i (some (.dat d))) else none) = some env' := e
    split at e
    · cases e
      exact q _ (R.setD (rv := .dat d) r rfl) ⟨List.length_set, fun j h => List.getElem?_set_ne fun z => h (by simp [Tg.slots, z])⟩
    · cases e
theorem mgs_nil : PGs X [] (TGsm J .nil) := PGs.weak pgs_nil fun vs σ H Q ⟨w, env, ds, env', mh, R, r, e, q⟩ => by
  cases ds with
  | nil => cases r; cases (show some env = some env' from e); exact ⟨rfl, q _ R .refl⟩
  | cons d ds => cases (show none = some env' from e)
theorem mgs_cons {e : Expr} {es : List Expr} {t ts : Tg} (h1 : PG X e (TGm J t)) (h2 : PGs X es (TGsm J ts)) (hs : (assignEach (e :: es) X.env).map (·.2) = assign e X.env :: (assignEach es X.env).map (·.2)) : PGs X (e :: es) (TGsm J (.cons t ts)) :=
  PGs.weak (pgs_cons h1 h2 hs) fun us σ H Q ⟨w, env, es', env', mh, R, r, e, q⟩ => by
    cases r with
    | nil => cases (show none = some env' from e)
    | @cons v vs d ds r1 r =>
      have e : ((bindT t d env).bind fun env' => bindT ts (.tuple ds) env') = some env' := e
      obtain ⟨env1, e1, e2⟩ := Option.bind_eq_some_iff.mp e
      exact ⟨v, vs, rfl, w, env, d, env1, mh, R, .of r1, e1, fun σ' R' n' => ⟨w, env1, ds, env', mh, R', r, e2, fun σ2 R2 n2 => q σ2 R2 (n'.trans n2)⟩⟩
/-- how many -/
def Tg.len : Tg → Nat
  | .cons _ ts => ts.len + 1
  | _ => 0
def Tg.seq : Tg → Bool
  | .nil => true
  | .cons _ ts => ts.seq
  | .nm _ => false
theorem bindT_len : ∀ {t : Tg} {ds : List PyData} {env env' : MEnv}, t.seq = true → bindT t (.tuple ds) env = some env' → ds.length = t.len
  | .nil, [], _, _, _, _ => rfl
  | .nil, _ :: _, _, _, _, e => by cases e
  | .cons t ts, [], _, _, _, e => by cases e
  | .cons t ts, d :: ds, env, env', h, e => by
    have e : ((bindT t d env).bind fun env' => bindT ts (.tuple ds) env') = some env' := e
    obtain ⟨env1, _, e2⟩ := Option.bind_eq_some_iff.mp e
    show ds.length + 1 = ts.len + 1
    rw [bindT_len (t := ts) h e2]
theorem bindT_list : ∀ {t : Tg} {ds : List PyData} {env env' : MEnv}, t.seq = true → bindT t (.list ds) env = some env' → bindT t (.tuple ds) env = some env'
  | .nil, [], _, _, _, e => e
  | .nil, _ :: _, _, _, _, e => by cases e
  | .cons t ts, [], _, _, _, e => by cases e
  | .cons t ts, d :: ds, env, env', h, e => by
    have e : ((bindT t d env).bind fun env' => bindT ts (.list ds) env') = some env' := e
    obtain ⟨env1, e1, e2⟩ := Option.bind_eq_some_iff.mp e
    show ((bindT t d env).bind fun env' => bindT ts (.tuple ds) env') = some env'
    rw [e1]
    exact bindT_list (t := ts) h e2
theorem mg_seq {es : List Expr} {k : Nat} {t : Tg} {pos : Pos} (hc : X.calm = true) (h : PGs X es (TGsm J t)) (ht : t.seq = true) (hn : (assignEach es X.env).length = t.len) (hst : (assignEach es X.env).findIdx? (·.1) = none) : PG X (.Tuple es k pos) (TGm J t) := by
  refine ⟨fun pins s σ H v u Q I r q => ?_⟩
  obtain ⟨w, env, d, env', mh, R, rb, e, q⟩ := q
  have rb : Bd J.T.g w.F H v d := by cases t with | nm i => cases ht | nil => exact rb | cons a b => exact rb
  have done : ∀ {vs : List V} {ds : List PyData}, DvA J.T.g w.F H vs ds → bindT t (.tuple ds) env = some env' → vs.length = t.len ∧ TGsm J t vs σ H Q := fun {vs ds} r1 e1 => ⟨by rw [r1.length]; exact bindT_len ht e1, w, env, ds, env', mh, R, r1, e1, q⟩
  have onT : ∀ {ds : List PyData} {p : Addr} {vs : List V}, v = .ref p → SqT X.K H p vs → DvA J.T.g w.F H vs ds → d = .tuple ds → wpAny (model X.prog X.w) X.A (assign (.Tuple es k pos) X.env u) (fun _ s' => ∃ σ' H', Inv X pins σ' H' s' ∧ Q σ' H') X.xe s := fun {ds p vs} e1 e2 e3 e4 => by
    subst e4
    obtain ⟨z1, z2⟩ := done e3 e
    exact (pg_tup hc h hn hst).run pins s σ H v u Q I r ⟨p, vs, e1, e2, z1, z2⟩
  rcases rb with rb | ⟨p, vs, ds, e1, e2, e3, e4⟩
  · cases rb with
    | tup f ta dl => exact onT rfl ta.sq dl rfl
    | lst f ta dl =>
      obtain ⟨z1, z2⟩ := done dl (bindT_list ht e)
      exact (pg_lst hc h hn hst).run pins s σ H _ u Q I r ⟨_, _, rfl, .inl ta, z1, z2⟩
    | _ => cases t with
      | nm i => cases ht
      | nil => cases e
      | cons a b => cases e
  · exact onT e1 (.of e2) e3 e4
end

/-! ### what is walked -/
/-- the frozen things stay -/
def FKeep (w : Wd) (H : Hp) (w' : Wd) (H' : Hp) : Prop := (∀ a, w.F a → w'.F a) ∧ ∀ a o, w.F a → H a = some o → H' a = some o
theorem Ext.fk {w w' : Wd} {H H' : Hp} (x : Ext w H w' H') : FKeep w H w' H' := ⟨x.F, fun a o f e => x.H a o e fun _ => f⟩
theorem FKeep.refl {w : Wd} {H : Hp} : FKeep w H w H := ⟨fun _ h => h, fun _ _ _ h => h⟩
theorem FKeep.trans {w w1 w2 : Wd} {H H1 H2 : Hp} (a : FKeep w H w1 H1) (b : FKeep w1 H1 w2 H2) : FKeep w H w2 H2 := ⟨fun x h => b.1 x (a.1 x h), fun x o f h => b.2 x o (a.1 x f) (a.2 x o f h)⟩
abbrev KeepR := Wd → Hp → Wd → Hp → Prop
def WalksR (K : KeepR) (t : Tg) (g : Pw) (w : Wd) (H : Hp) (I : L2.It) (ds : List PyData) : Prop :=
  ∀ w' H', K w H w' H' → (∀ i, i < ds.length → I.go i H') ∧ I.stop ds.length H' ∧
    ∀ i x H'', I.yld i H' x H'' → i < ds.length → ∃ d, ds[i]? = some d ∧ BdT t g w'.F H'' x d ∧ (H'' = H' ∨ ∃ p o, H' p = none ∧ H'' = upd H' p o)
def TIm (J : Jd) (K : KeepR) (t : Tg) (m : MEnv → MH → Out (List PyData)) : TI := fun σ H R => ∃ w env mh, Rel J.T J.B w env mh σ H ∧ OG J.T (WalksR K t J.T.g) (fun c d H' => J.W c d σ H') w H (m env mh) R
section
variable {K : KeepR} {t : Tg} {g : Pw} {w : Wd} {H : Hp} {F : PySem.W.Frag}
theorem dvA_i {F : Addr → Prop} {vs : List V} {ds : List PyData} {i : Nat} (r : DvA g F H vs ds) (h : i < ds.length) : ∃ v d, vs[i]? = some v ∧ ds[i]? = some d ∧ Dv g F H v d := by
  obtain ⟨v, e, q⟩ := r.get (List.getElem?_eq_getElem h)
  exact ⟨v, _, e, List.getElem?_eq_getElem h, q⟩
theorem walks_list {a : Addr} {vs : List V} {ds : List PyData} (h : ∀ w' H', K w H w' H' → SqL F H' a vs ∧ DvA g w'.F H' vs ds) : WalksR K t g w H (Itl F a) ds := fun w' H' k => by
  obtain ⟨h1, h2⟩ := h w' H' k
  refine ⟨fun i hi => ?_, ⟨vs, h1, by rw [h2.length]; exact Nat.le_refl _⟩, fun i x H'' hy hi => ?_⟩
  · obtain ⟨v, d, e, _, _⟩ := dvA_i h2 hi
    exact ⟨vs, v, h1, e⟩
  · obtain ⟨v, d, e1, e2, r⟩ := dvA_i h2 hi
    obtain ⟨rfl, hx⟩ := hy
    have e3 := hx vs h1
    rw [e1] at e3; cases e3
    exact ⟨d, e2, .of r, .inl rfl⟩
theorem walks_tup {a : Addr} {vs : List V} {ds : List PyData} (h : ∀ w' H', K w H w' H' → SqT F H' a vs ∧ DvA g w'.F H' vs ds) : WalksR K t g w H (Itt F a) ds := fun w' H' k => by
  obtain ⟨h1, h2⟩ := h w' H' k
  refine ⟨fun i hi => ?_, ⟨vs, h1, by rw [h2.length]; exact Nat.le_refl _⟩, fun i x H'' hy hi => ?_⟩
  · obtain ⟨v, d, e, _, _⟩ := dvA_i h2 hi
    exact ⟨vs, v, h1, e⟩
  · obtain ⟨v, d, e1, e2, r⟩ := dvA_i h2 hi
    obtain ⟨rfl, hx⟩ := hy
    have e3 := hx vs h1
    rw [e1] at e3; cases e3
    exact ⟨d, e2, .of r, .inl rfl⟩
theorem walks_str {x : Str} : WalksR K t g w H (Its x) (x.cps.toList.map fun c => .str ⟨#[c]⟩) := fun w' H' k => by
  refine ⟨fun i hi => by show i < x.cps.size; simpa using hi, by simp [Its], fun i v H'' hy hi => ?_⟩
  obtain ⟨rfl, c, hc, rfl⟩ := hy
  refine ⟨.str ⟨#[c]⟩, ?_, .of (.str _), .inl rfl⟩
  rw [List.getElem?_map, Array.getElem?_toList, hc]
  rfl
theorem rngD_length (lo : Int) : ∀ n, (rngD lo n).length = n
  | 0 => rfl
  | n + 1 => by show (rngD _ n).length + 1 = n + 1; rw [rngD_length _ n]
theorem rngD_get (lo : Int) : ∀ (n i : Nat), i < n → (rngD lo n)[i]? = some (.int (lo + i))
  | n + 1, 0, _ => by show some (PyData.int lo) = _; simp
  | n + 1, i + 1, h => by
    show (rngD (lo + 1) n)[i]? = _
    rw [rngD_get (lo + 1) n i (by omega)]
    have : lo + 1 + (i : Int) = lo + ((i + 1 : Nat) : Int) := by omega
    rw [this]
theorem walks_rng {lo : Int} {n : Nat} : WalksR K t g w H (Itr lo n) (rngD lo n) := fun w' H' k => by
  refine ⟨fun i hi => by rw [rngD_length] at hi; exact hi, by rw [rngD_length]; exact Nat.le_refl _, fun i v H'' hy hi => ?_⟩
  rw [rngD_length] at hi
  obtain ⟨rfl, rfl⟩ := hy
  exact ⟨_, rngD_get lo n i hi, .of (.int _), .inl rfl⟩
theorem zipD2_length : ∀ xs ys : List PyData, (zipD2 xs ys).length = min xs.length ys.length
  | [], ys => by simp [zipD2]
  | x :: xs, [] => by simp [zipD2]
  | x :: xs, y :: ys => by simp only [zipD2, List.length_cons]; rw [zipD2_length xs ys]; omega
theorem zipD2_get : ∀ {xs ys : List PyData} {i : Nat} {x y : PyData}, xs[i]? = some x → ys[i]? = some y → (zipD2 xs ys)[i]? = some (.tuple [x, y])
  | [], _, _, _, _, h, _ => by simp at h
  | _ :: _, [], _, _, _, _, h => by simp at h
  | x :: xs, y :: ys, 0, _, _, h, h' => by simp at h h'; subst h h'; rfl
  | x :: xs, y :: ys, i + 1, _, _, h, h' => by
    show (zipD2 xs ys)[i]? = _
    exact zipD2_get (by simpa using h) (by simpa using h')
theorem zipD3_length : ∀ xs ys zs : List PyData, (zipD3 xs ys zs).length = min (min xs.length ys.length) zs.length
  | [], ys, zs => by simp [zipD3]
  | x :: xs, [], zs => by simp [zipD3]
  | x :: xs, y :: ys, [] => by simp [zipD3]
  | x :: xs, y :: ys, z :: zs => by simp only [zipD3, List.length_cons]; rw [zipD3_length xs ys zs]; omega
theorem zipD3_get : ∀ {xs ys zs : List PyData} {i : Nat} {x y z : PyData}, xs[i]? = some x → ys[i]? = some y → zs[i]? = some z → (zipD3 xs ys zs)[i]? = some (.tuple [x, y, z])
  | [], _, _, _, _, _, _, h, _, _ => by simp at h
  | _ :: _, [], _, _, _, _, _, _, h, _ => by simp at h
  | _ :: _, _ :: _, [], _, _, _, _, _, _, h => by simp at h
  | x :: xs, y :: ys, z :: zs, 0, _, _, _, h, h', h'' => by simp at h h' h''; subst h h' h''; rfl
  | x :: xs, y :: ys, z :: zs, i + 1, _, _, _, h, h', h'' => by
    show (zipD3 xs ys zs)[i]? = _
    exact zipD3_get (by simpa using h) (by simpa using h') (by simpa using h'')
theorem enumD_length : ∀ (n : Nat) (xs : List PyData), (enumD n xs).length = xs.length
  | _, [] => rfl
  | n, x :: xs => by simp only [enumD, List.length_cons]; rw [enumD_length (n + 1) xs]
theorem enumD_get : ∀ {xs : List PyData} {n i : Nat} {x : PyData}, xs[i]? = some x → (enumD n xs)[i]? = some (.tuple [.int ((n + i : Nat) : Int), x])
  | [], _, _, _, h => by simp at h
  | x :: xs, n, 0, _, h => by simp at h; subst h; rfl
  | x :: xs, n, i + 1, _, h => by
    show (enumD (n + 1) xs)[i]? = _
    rw [enumD_get (by simpa using h)]
    have : n + 1 + i = n + (i + 1) := by omega
    rw [this]
theorem BdT.new {T : Addr} {vs : List V} {ds : List PyData} {F : Addr → Prop} (ht : t.seq = true) (hn : H T = none) (r : DvA g F H vs ds) : BdT t g F (upd H T (.tup vs)) (.ref T) (.tuple ds) := by
  have q : Bd g F (upd H T (.tup vs)) (.ref T) (.tuple ds) := .inr ⟨T, vs, ds, rfl, upd_same, r.mono (fun _ h => h) fun a u _ e => by rw [upd_ne (ne_of_none e hn)]; exact e, rfl⟩
  cases t with
  | nm i => cases ht
  | nil => exact q
  | cons a b => exact q
theorem walks_zipB {k l : Bool} {a b : Addr} {vs us : List V} {ds es : List PyData} (ht : t.seq = true) (h : ∀ w' H', K w H w' H' → SqB k F H' a vs ∧ DvA g w'.F H' vs ds ∧ SqB l F H' b us ∧ DvA g w'.F H' us es) : WalksR K t g w H (ItzB F k l a b) (zipD2 ds es) := fun w' H' kk => by
  obtain ⟨h1, h2, h3, h4⟩ := h w' H' kk
  rw [zipD2_length]
  refine ⟨fun i hi => ⟨vs, us, h1, h3, by rw [h2.length]; omega, by rw [h4.length]; omega⟩, ⟨vs, us, h1, h3, by rw [h2.length, h4.length]⟩, fun i x H'' hy hi => ?_⟩
  obtain ⟨v, d, e1, e2, r⟩ := dvA_i h2 (i := i) (by omega)
  obtain ⟨v', d', e1', e2', r'⟩ := dvA_i h4 (i := i) (by omega)
  obtain ⟨T, x, y, rfl, hn, rfl, hx⟩ := hy
  obtain ⟨z1, z2⟩ := hx vs us h1 h3
  rw [e1] at z1; rw [e1'] at z2; cases z1; cases z2
  exact ⟨_, zipD2_get e2 e2', .new ht hn (.cons r (.cons r' .nil)), .inr ⟨T, _, hn, rfl⟩⟩
theorem walks_zipC {k l m : Bool} {a b c : Addr} {vs us ws : List V} {ds es fs : List PyData} (ht : t.seq = true) (h : ∀ w' H', K w H w' H' → SqB k F H' a vs ∧ DvA g w'.F H' vs ds ∧ SqB l F H' b us ∧ DvA g w'.F H' us es ∧ SqB m F H' c ws ∧ DvA g w'.F H' ws fs) : WalksR K t g w H (ItzC F k l m a b c) (zipD3 ds es fs) := fun w' H' kk => by
  obtain ⟨h1, h2, h3, h4, h5, h6⟩ := h w' H' kk
  rw [zipD3_length]
  refine ⟨fun i hi => ⟨vs, us, ws, h1, h3, h5, by rw [h2.length]; omega, by rw [h4.length]; omega, by rw [h6.length]; omega⟩, ⟨vs, us, ws, h1, h3, h5, by rw [h2.length, h4.length, h6.length]⟩, fun i x H'' hy hi => ?_⟩
  obtain ⟨v, d, e1, e2, r⟩ := dvA_i h2 (i := i) (by omega)
  obtain ⟨v', d', e1', e2', r'⟩ := dvA_i h4 (i := i) (by omega)
  obtain ⟨v'', d'', e1'', e2'', r''⟩ := dvA_i h6 (i := i) (by omega)
  obtain ⟨T, x, y, z, rfl, hn, rfl, hx⟩ := hy
  obtain ⟨z1, z2, z3⟩ := hx vs us ws h1 h3 h5
  rw [e1] at z1; rw [e1'] at z2; rw [e1''] at z3; cases z1; cases z2; cases z3
  exact ⟨_, zipD3_get e2 e2' e2'', .new ht hn (.cons r (.cons r' (.cons r'' .nil))), .inr ⟨T, _, hn, rfl⟩⟩
theorem walks_enum {k : Bool} {a : Addr} {vs : List V} {ds : List PyData} (ht : t.seq = true) (h : ∀ w' H', K w H w' H' → SqB k F H' a vs ∧ DvA g w'.F H' vs ds) : WalksR K t g w H (IteB F k a) (enumD 0 ds) := fun w' H' kk => by
  obtain ⟨h1, h2⟩ := h w' H' kk
  rw [enumD_length]
  refine ⟨fun i hi => ⟨vs, h1, by rw [h2.length]; omega⟩, ⟨vs, h1, by rw [h2.length]⟩, fun i x H'' hy hi => ?_⟩
  obtain ⟨v, d, e1, e2, r⟩ := dvA_i h2 (i := i) (by omega)
  obtain ⟨T, x, rfl, hn, rfl, hx⟩ := hy
  have z1 := hx vs h1
  rw [e1] at z1; cases z1
  refine ⟨_, enumD_get e2, .new ht hn (.cons ?_ (.cons r .nil)), .inr ⟨T, _, hn, rfl⟩⟩
  rw [Nat.zero_add]
  exact .int _
end
end Mn
end
section
set_option linter.all false
set_option autoImplicit false
set_option maxRecDepth 100000
/-! Mini: rules for expressions. -/
namespace Mn
open PySem PySem.Spec PyProof.Rows L2

/-- no star, by its head -/
def plainX : Expr → Bool
  | .Starred _ _ => false
  | .Slice _ _ _ _ => false
  | .Set _ _ _ => false
  | _ => true
theorem star_of {e : Expr} {es : List Expr} {env : Env} (h : plainX e = true) : starEach (e :: es) env = (false, eval e env) :: starEach es env := by
  cases e <;> first | rfl | cases h
theorem star_all {env : Env} : ∀ {es : List Expr}, es.all plainX = true → starEach es env = es.map fun e => (false, eval e env)
  | [], _ => rfl
  | e :: es, h => by
    rw [List.all_cons, Bool.and_eq_true] at h
    rw [star_of h.1, star_all h.2]; rfl
theorem star_back {env : Env} {pos : Pos} {es : List Expr} (h : es.all plainX = true) : backTo pos (starEach es env) = es.map fun e => (false, eval e env) := by
  rw [star_all h]; unfold backTo; rw [List.map_map]; exact List.map_congr_left fun e _ => rfl
theorem star_any {env : Env} {pos : Pos} {es : List Expr} (h : es.all plainX = true) : (backTo pos (starEach es env)).any (·.1) = false := by
  rw [star_back h]; induction es with
  | nil => rfl
  | cons e es ih => rw [List.all_cons, Bool.and_eq_true] at h; show (false || _) = false; rw [Bool.false_or]; exact ih h.2
theorem plainIx_of {b : Expr} (h : plainX b = true) : PlainIx b := by intro o i; cases b <;> first | rfl | cases h
theorem nomarks {op : CmpOp} {b : Expr} (h : plainX b = true) : behindInMarks op b = false := by cases b <;> first | rfl | cases h
theorem folded_of {it : Expr} {env : Env} (h : plainX it = true) : ∀ x, foldedSetIterable it env x = pure x := by intro x; cases it <;> first | rfl | cases h

/-! ### what new results are -/
/-- a list or a dict that nobody else holds -/
def FreshAt (g : Pw) (w : Wd) (H : Hp) (a : Addr) : PyData → Prop
  | .list ds => a ∉ w.cs ∧ ¬ w.F a ∧ ∃ xs, H a = some (.lst xs) ∧ DvA g w.F H xs ds
  | .dict ps => a ∉ w.cs ∧ ¬ w.F a ∧ ((∃ kvs, H a = some (.dK kvs) ∧ DvK g w.F H kvs ps) ∨ ∃ kvs, H a = some (TD g a kvs) ∧ DvT g w.F H kvs ps)
  | _ => False
def relF (T : Stat) (H₀ : Hp) : Wd → Hp → V → RV → Prop := fun w H v rv => ∃ a d, v = .ref a ∧ rv = .dat d ∧ H₀ a = none ∧ FreshAt T.g w H a d
/-- a value of its own is new -/
def RvN (T : Stat) (H₀ : Hp) : Wd → Hp → V → RV → Prop := fun w H v rv => RvOk T w H v rv ∧ (rv.own = true → ∀ a, v = .ref a → H₀ a = none)
def TEf (J : Jd) (m : MEnv → MH → Out RV) : TE := fun σ H Q => ∃ w env mh, Rel J.T J.B w env mh σ H ∧ OG J.T (relF J.T H) (fun c d H' => J.W c d σ H') w H (m env mh) Q
def TEc (J : Jd) (m : MEnv → MH → Out RV) : TE := fun σ H Q => ∃ w env mh, Rel J.T J.B w env mh σ H ∧ OG J.T (RvN J.T H) (fun c d H' => J.W c d σ H') w H (m env mh) Q
theorem OG.rel {T : Stat} {α β : Type} {rel rel' : Wd → Hp → β → α → Prop} {W : XK} {w : Wd} {H : Hp} {o : Out α} {Q : β → Hp → Prop} (h : OG T rel W w H o Q) (k : ∀ w' H' b a, Ext w H w' H' → rel' w' H' b a → rel w' H' b a) : OG T rel' W w H o Q := by
  cases o with
  | ok a mh => exact fun w' b H' x r q => h w' b H' x r (k _ _ _ _ x q)
  | exc x mh => exact h
  | stuck => exact h
theorem TEc.tem {J : Jd} {m : MEnv → MH → Out RV} {σ : L2.St} {H : Hp} {Q : VK} (h : TEm J m σ H Q) : TEc J m σ H Q := let ⟨w, env, mh, R, o⟩ := h; ⟨w, env, mh, R, o.rel fun _ _ _ _ _ q => q.1⟩
/-- a fresh one is frozen -/
theorem RelH.freeze {T : Stat} {w : Wd} {mh : MH} {H : Hp} {a : Addr} {o : HO} (R : RelH T w mh H) (hc : a ∉ w.cs) (ha : H a = some o) : RelH T (w.add a) mh H where
  len := R.len
  nd := R.nd
  thF := fun b h => by
    rcases h with h | h
    · exact R.thF b h
    · subst h; exact ⟨o, ha⟩
  thC := R.thC
  ok := fun n c b h1 h2 => by
    have h := R.ok n c b h1 h2
    have m : ∀ {v : V} {d : PyData}, Dv T.g w.F H v d → Dv T.g (w.add a).F H v d := fun q => q.mono (fun _ => .inl) fun _ _ _ e => e
    cases c with
    | lst ds => obtain ⟨xs, e, q⟩ := h; exact ⟨xs, e, q.mono (fun _ => .inl) fun _ _ _ e => e⟩
    | dct ps =>
      rcases h with ⟨kvs, e, q⟩ | ⟨kvs, e, q⟩
      · exact .inl ⟨kvs, e, q.mono (fun _ => .inl) fun _ _ _ e => e⟩
      · exact .inr ⟨kvs, e, q.mono (fun _ => .inl) fun _ _ _ e => e⟩
    | ins c fs =>
      obtain ⟨dx, hfs, e, q, l⟩ := h
      refine ⟨dx, hfs, e, ?_, l⟩
      clear e l h1
      induction q with
      | nil => exact .nil
      | dat r _ ih => exact .dat (m r) ih
      | ref r _ ih => exact .ref r ih
    | dead => trivial
  live := fun n c b h1 h2 h3 h => by
    rcases h with h | h
    · exact R.live n c b h1 h2 h3 h
    · subst h; exact hc (List.mem_of_getElem? h2)
theorem Ext.freeze {w w' : Wd} {H H' : Hp} {a : Addr} (x : Ext w H w' H') (hn : H a = none) : Ext w H (w'.add a) H' where
  F := fun b h => .inl (x.F b h)
  F' := fun b h => by
    rcases h with h | h
    · exact x.F' b h
    · subst h; exact .inr (.inl hn)
  cs := x.cs
  cs' := x.cs'
  H := x.H
theorem FreshAt.dv {g : Pw} {w : Wd} {H : Hp} {a : Addr} {d : PyData} (h : FreshAt g w H a d) : Dv g (w.add a).F H (.ref a) d := by
  cases d with
  | list ds => obtain ⟨_, _, xs, e, q⟩ := h; exact .lst (.inr rfl) (.inl e) (q.mono (fun _ => .inl) fun _ _ _ e => e)
  | dict ps =>
    obtain ⟨_, _, h⟩ := h
    rcases h with ⟨kvs, e, q⟩ | ⟨kvs, e, q⟩
    · exact .dK (.inr rfl) (.inl e) (q.mono (fun _ => .inl) fun _ _ _ e => e)
    · exact .dT (.inr rfl) (.inl e) (q.mono (fun _ => .inl) fun _ _ _ e => e)
  | _ => exact absurd h (by simp [FreshAt])
theorem FreshAt.nc {g : Pw} {w : Wd} {H : Hp} {a : Addr} {d : PyData} (h : FreshAt g w H a d) : a ∉ w.cs ∧ ¬ w.F a ∧ ∃ o, H a = some o := by
  cases d with
  | list ds => obtain ⟨h1, h2, xs, e, q⟩ := h; exact ⟨h1, h2, _, e⟩
  | dict ps =>
    obtain ⟨h1, h2, h⟩ := h
    rcases h with ⟨kvs, e, q⟩ | ⟨kvs, e, q⟩
    · exact ⟨h1, h2, _, e⟩
    · exact ⟨h1, h2, _, e⟩
  | _ => exact absurd h (by simp [FreshAt])
theorem TEf.tem {J : Jd} {m : MEnv → MH → Out RV} {σ : L2.St} {H : Hp} {Q : VK} (h : TEm J m σ H Q) : TEf J m σ H Q := by
  obtain ⟨w, env, mh, R, o⟩ := h
  refine ⟨w, env, mh, R, ?_⟩
  generalize m env mh = r at o ⊢
  cases r with
  | ok a mh' =>
    intro w' b H' x r q
    obtain ⟨p, d, rfl, rfl, hn, hf⟩ := q
    obtain ⟨h1, h2, ob, h3⟩ := hf.nc
    exact o (w'.add p) _ H' (x.freeze hn) (r.freeze h1 h3) hf.dv
  | exc x mh' => exact o
  | stuck => exact o
/-- the results of new-making functions -/
theorem NewF.fresh {T : Stat} {W : XK} {w : Wd} {H₀ H H' : Hp} {d : PyData} {mh : MH} {Q : VK} {v : V} (o : OG T (relF T H₀) W w H (.ok (.dat d) mh) Q) (R : RelH T w mh H) (x : ∀ a, H a = none → H₀ a = none) (n : NewF T.g w.F H v d H') : Q v H' := by
  have nF : ∀ p, H p = none → ¬ w.F p := fun p hn z => by obtain ⟨o, e⟩ := R.thF p z; rw [hn] at e; cases e
  have nC : ∀ p, H p = none → p ∉ w.cs := fun p hn z => by obtain ⟨o, e⟩ := R.thC p z; rw [hn] at e; cases e
  cases n with
  | lst p xs ds hp r =>
    exact o w _ _ (Ext.lay hp) (R.lay hp) ⟨p, _, rfl, rfl, x p hp, nC p hp, nF p hp, xs, upd_same, (Ext.lay hp).dvA r⟩
  | dK p kvs ps hp r =>
    exact o w _ _ (Ext.lay hp) (R.lay hp) ⟨p, _, rfl, rfl, x p hp, nC p hp, nF p hp, .inl ⟨kvs, upd_same, (Ext.lay hp).dvK r⟩⟩
  | dT p kvs ps hp r =>
    exact o w _ _ (Ext.lay hp) (R.lay hp) ⟨p, _, rfl, rfl, x p hp, nC p hp, nF p hp, .inr ⟨kvs, upd_same, (Ext.lay hp).dvT r⟩⟩
/-- what stood in an earlier state is not new -/
theorem Ext.old {T : Stat} {w w' : Wd} {H H' : Hp} {mh' : MH} (x : Ext w H w' H') (R' : RelH T w' mh' H') : ∀ a, H' a = none → H a = none := fun a h => by
  cases e : H a with
  | none => rfl
  | some o =>
    by_cases hc : a ∈ w.cs
    · obtain ⟨t, et⟩ := x.cs
      obtain ⟨o', e'⟩ := R'.thC a (by rw [et]; exact List.mem_append_left _ hc)
      rw [h] at e'; cases e'
    · have := x.there e hc
      rw [h] at this; cases this

/-! ### lists of expressions -/
section
variable {X : Cx} {J : Jd} {C : CallF}
theorem ma_nil : PA X [] (TDm J (evEs C .nil)) := PA.weak pa_nil fun σ H Q ⟨w, env, mh, R, o⟩ => o.now R.h DvA.nil
theorem ma_cons {e : E} {es : Es} {x : Expr} {xs : List Expr} (h : PE X x (TEm J (evE C e))) (hr : PA X xs (TDm J (evEs C es))) (hp : plainX x = true) : PA X (x :: xs) (TDm J (evEs C (.cons e es))) :=
  PA.weak (pa_cons h hr (star_of hp)) fun σ H Q ⟨w, env, mh, R, o⟩ => by
    refine ⟨w, env, mh, R, (OG.bind (rel := RvOk J.T) o).mono fun v H1 ⟨w1, rv, mh1, _, x1, R1, r1, o1⟩ => ?_⟩
    cases rv with
    | dat d =>
      refine ⟨w1, env, mh1, R.ext x1 R1, (OG.bind (rel := relDs J.T.g) o1).mono fun vs H2 ⟨w2, ds, mh2, _, x2, R2, r2, o2⟩ => ?_⟩
      exact o2.now R2 (DvA.cons (x2.dv r1) r2)
    | _ => exact o1.elim
theorem mv_nil : PA X [] (TVm J (evVs C .nil)) := PA.weak pa_nil fun σ H Q ⟨w, env, mh, R, o⟩ => o.now R.h RvsOk.nil
theorem mv_cons {e : E} {es : Es} {x : Expr} {xs : List Expr} (h : PE X x (TEm J (evE C e))) (hr : PA X xs (TVm J (evVs C es))) (hp : plainX x = true) : PA X (x :: xs) (TVm J (evVs C (.cons e es))) :=
  PA.weak (pa_cons h hr (star_of hp)) fun σ H Q ⟨w, env, mh, R, o⟩ => by
    refine ⟨w, env, mh, R, (OG.bind (rel := RvOk J.T) o).mono fun v H1 ⟨w1, rv, mh1, _, x1, R1, r1, o1⟩ => ?_⟩
    refine ⟨w1, env, mh1, R.ext x1 R1, (OG.bind (rel := RvsOk J.T) o1).mono fun vs H2 ⟨w2, ds, mh2, _, x2, R2, r2, o2⟩ => ?_⟩
    exact o2.now R2 (RvsOk.cons (x2.rv r1) r2)
theorem views_ok {T : Stat} {w : Wd} {mh : MH} {H : Hp} (R : RelH T w mh H) : ∀ {vs : List V} {rs : List RV} {ds : List PyData}, RvsOk T w H vs rs → views mh rs = some ds → WOkA T.g w.F H vs ds
  | _, _, _, .nil, e => by cases (Option.some.inj (show some [] = some _ from e)); exact .nil
  | _, _, ds, .cons (r := r) (rs := rs) h t, e => by
    unfold views at e
    split at e
    · rename_i d ds' e1 e2
      cases e
      exact .cons (h.view R e1) (views_ok R t e2)
    · cases e

/-! ### operators -/
theorem me_bin {op : Operator} {a b : E} {x y : Expr} {pos : Pos} (ha : PE X x (TEm J (evE C a))) (hb : PE X y (TEm J (evE C b))) (hg : J.T.g = ⟨X.prog, X.w⟩) : PE X (.BinOp x op y pos) (TEm J (evE C (.bin op a b))) :=
  PE.weak (pe_op (op_binM (g := J.T.g) op) ha hb) fun σ H Q ⟨w, env, mh, R, o⟩ => by
    refine ⟨w, env, mh, R, (OG.bind (rel := RvOk J.T) o).mono fun v H1 ⟨w1, rv, mh1, _, x1, R1, r1, o1⟩ => ?_⟩
    refine ⟨w1, env, mh1, R.ext x1 R1, (OG.bind (rel := RvOk J.T) o1).mono fun u H2 ⟨w2, ru, mh2, _, x2, R2, r2, o2⟩ => ?_⟩
    split at o2
    · rename_i d e h1 h2
      unfold ofD at o2
      split at o2
      · rename_i r hr
        exact ⟨w2.F, d, e, r, (x2.rv r1).view R2 h1, r2.view R2 h2, hr, fun v' H' n => o2.newD R2 n⟩
      · exact o2.elim
    · exact o2.elim
theorem mf_cat {a b : E} {x y : Expr} {pos : Pos} (ha : PE X x (TEm J (evE C a))) (hb : PE X y (TEm J (evE C b))) : PE X (.BinOp x .Add y pos) (TEf J (evE C (.cat a b))) :=
  PE.weak (pe_op op_catL ha hb) fun σ H Q ⟨w, env, mh, R, o⟩ => by
    refine ⟨w, env, mh, R, (OG.bind (rel := RvOk J.T) o).mono fun v H1 ⟨w1, rv, mh1, _, x1, R1, r1, o1⟩ => ?_⟩
    refine ⟨w1, env, mh1, R.ext x1 R1, (OG.bind (rel := RvOk J.T) o1).mono fun u H2 ⟨w2, ru, mh2, _, x2, R2, r2, o2⟩ => ?_⟩
    split at o2
    · rename_i xs ys h1 h2
      split at o2
      · rename_i hb
        obtain ⟨a1, vs, e1, g1, q1⟩ := ((x2.rv r1).view R2 h1).list
        obtain ⟨a2, us, e2, g2, q2⟩ := (r2.view R2 h2).list
        exact ⟨a1, a2, vs, us, e1, e2, g1, g2, by rw [q1.length, q2.length]; exact big_le hb, fun p hp => NewF.fresh o2 R2 (fun a h => x1.old R1 a (x2.old R2 a h)) (.lst p _ _ hp (q1.append q2))⟩
      · exact o2.elim
    · exact o2.elim
theorem me_neg {a : E} {x : Expr} {pos : Pos} (ha : PE X x (TEm J (evE C a))) : PE X (.UnaryOp .USub x pos) (TEm J (evE C (.neg a))) :=
  PE.weak (pe_un un_neg ha) fun σ H Q ⟨w, env, mh, R, o⟩ => by
    refine ⟨w, env, mh, R, (OG.bind (rel := RvOk J.T) o).mono fun v H1 ⟨w1, rv, mh1, _, x1, R1, r1, o1⟩ => ?_⟩
    split at o1
    · cases r1
      exact ⟨_, rfl, o1.val R1 (.int _)⟩
    · exact o1.elim
theorem me_cmp {op : CmpOp} {a b : E} {x y : Expr} {pos : Pos} (hg : J.T.g = ⟨X.prog, X.w⟩) (hu : X.A.units + 200 < cLine) (ha : PE X x (TEm J (evE C a))) (hb : PE X y (TEm J (evE C b))) (hp : plainX y = true) :
    PE X (.Compare x [op] [y] pos) (TEm J (evE C (.cmp op a b))) :=
  PE.weak (pe_cmpR (op_cmpM hg hu op) ha hb (nomarks hp)) fun σ H Q ⟨w, env, mh, R, o⟩ => by
    refine ⟨w, env, mh, R, (OG.bind (rel := RvOk J.T) o).mono fun v H1 ⟨w1, rv, mh1, _, x1, R1, r1, o1⟩ => ?_⟩
    refine ⟨w1, env, mh1, R.ext x1 R1, (OG.bind (rel := RvOk J.T) o1).mono fun u H2 ⟨w2, ru, mh2, _, x2, R2, r2, o2⟩ => ?_⟩
    split at o2
    · rename_i d e h1 h2
      unfold ofB at o2
      split at o2
      · rename_i r hr
        exact ⟨w2.F, d, e, r, (x2.rv r1).view R2 h1, r2.view R2 h2, hr, o2.val R2 (.bl _)⟩
      · exact o2.elim
    · exact o2.elim
theorem mt_cmp {op : CmpOp} {a b : E} {x y : Expr} {pos : Pos} (hg : J.T.g = ⟨X.prog, X.w⟩) (hu : X.A.units + 200 < cLine) (ha : PE X x (TEm J (evE C a))) (hb : PE X y (TEm J (evE C b))) (hp : plainX y = true) :
    PT X (.Compare x [op] [y] pos) (TTm J (evT C (.cmp op a b))) :=
  PT.weak (pt_cmpR (op_cmpM hg hu op) ha hb (nomarks hp)) fun σ H Q ⟨w, env, mh, R, o⟩ => by
    refine ⟨w, env, mh, R, (OG.bind (rel := RvOk J.T) o).mono fun v H1 ⟨w1, rv, mh1, _, x1, R1, r1, o1⟩ => ?_⟩
    refine ⟨w1, env, mh1, R.ext x1 R1, (OG.bind (rel := RvOk J.T) o1).mono fun u H2 ⟨w2, ru, mh2, _, x2, R2, r2, o2⟩ => ?_⟩
    split at o2
    · rename_i d e h1 h2
      unfold ofT at o2
      split at o2
      · rename_i r hr
        exact ⟨w2.F, d, e, r, (x2.rv r1).view R2 h1, r2.view R2 h2, hr, r, rfl, OG.now (rel := relB) o2 R2 rfl⟩
      · exact o2.elim
    · exact o2.elim
theorem me_chain {op op' : CmpOp} {a b c : E} {x y z : Expr} {pos : Pos} (hg : J.T.g = ⟨X.prog, X.w⟩) (hu : X.A.units + 200 < cLine) (ha : PE X x (TEm J (evE C a))) (hb : PE X y (TEm J (evE C b))) (hc : PE X z (TEm J (evE C c))) (hp : plainX z = true) :
    PE X (.Compare x [op, op'] [y, z] pos) (TEm J (evE C (.chain op op' a b c))) :=
  PE.weak (pe_chain (op_cmpM hg hu op) (op_cmpM hg hu op') ha hb hc (nomarks hp)) fun σ H Q ⟨w, env, mh, R, o⟩ => by
    refine ⟨w, env, mh, R, (OG.bind (rel := RvOk J.T) o).mono fun v H1 ⟨w1, rv, mh1, _, x1, R1, r1, o1⟩ => ?_⟩
    refine ⟨w1, env, mh1, R.ext x1 R1, (OG.bind (rel := RvOk J.T) o1).mono fun u H2 ⟨w2, ru, mh2, _, x2, R2, r2, o2⟩ => ?_⟩
    split at o2
    · rename_i d e h1 h2
      split at o2
      · rename_i hr
        refine ⟨w2.F, d, e, true, (x2.rv r1).view R2 h1, r2.view R2 h2, hr, true, rfl, ?_⟩
        rw [if_pos rfl]
        refine ⟨w2, env, mh2, (R.ext x1 R1).ext x2 R2, (OG.bind (rel := RvOk J.T) o2).mono fun t H3 ⟨w3, rt, mh3, _, x3, R3, r3, o3⟩ => ?_⟩
        split at o3
        · rename_i e' f h2' h3
          unfold ofB at o3
          split at o3
          · rename_i r hr'
            exact ⟨w3.F, e', f, r, (x3.rv r2).view R3 h2', r3.view R3 h3, hr', o3.val R3 (.bl _)⟩
          · exact o3.elim
        · exact o3.elim
      · rename_i hr
        exact ⟨w2.F, d, e, false, (x2.rv r1).view R2 h1, r2.view R2 h2, hr, false, rfl, o2.val R2 (.bl _)⟩
      · exact o2.elim
    · exact o2.elim
theorem mt_chain {op op' : CmpOp} {a b c : E} {x y z : Expr} {pos : Pos} (hg : J.T.g = ⟨X.prog, X.w⟩) (hu : X.A.units + 200 < cLine) (ha : PE X x (TEm J (evE C a))) (hb : PE X y (TEm J (evE C b))) (hc : PE X z (TEm J (evE C c))) (hp : plainX z = true) :
    PT X (.Compare x [op, op'] [y, z] pos) (TTm J (evT C (.chain op op' a b c))) :=
  PT.weak (pt_chain (op_cmpM hg hu op) (op_cmpM hg hu op') ha hb hc (nomarks hp)) fun σ H Q ⟨w, env, mh, R, o⟩ => by
    refine ⟨w, env, mh, R, (OG.bind (rel := RvOk J.T) o).mono fun v H1 ⟨w1, rv, mh1, _, x1, R1, r1, o1⟩ => ?_⟩
    refine ⟨w1, env, mh1, R.ext x1 R1, (OG.bind (rel := RvOk J.T) o1).mono fun u H2 ⟨w2, ru, mh2, _, x2, R2, r2, o2⟩ => ?_⟩
    split at o2
    · rename_i d e h1 h2
      split at o2
      · rename_i hr
        refine ⟨w2.F, d, e, true, (x2.rv r1).view R2 h1, r2.view R2 h2, hr, true, rfl, ?_⟩
        rw [if_pos rfl]
        refine ⟨w2, env, mh2, (R.ext x1 R1).ext x2 R2, (OG.bind (rel := RvOk J.T) o2).mono fun t H3 ⟨w3, rt, mh3, _, x3, R3, r3, o3⟩ => ?_⟩
        split at o3
        · rename_i e' f h2' h3
          unfold ofT at o3
          split at o3
          · rename_i r hr'
            exact ⟨w3.F, e', f, r, (x3.rv r2).view R3 h2', r3.view R3 h3, hr', r, rfl, OG.now (rel := relB) o3 R3 rfl⟩
          · exact o3.elim
        · exact o3.elim
      · rename_i hr
        refine ⟨w2.F, d, e, false, (x2.rv r1).view R2 h1, r2.view R2 h2, hr, false, rfl, ?_⟩
        rw [if_neg (by simp)]
        exact ⟨false, rfl, OG.now (rel := relB) o2 R2 rfl⟩
      · exact o2.elim
    · exact o2.elim
/-! ### and, or, not, if -/
theorem tB_of {x : V} {rv : RV} {w : Wd} {H : Hp} {b : Bool} (r : RvOk J.T w H x rv) (e : rv = .dat (.bool b)) : x = .bl b := by subst e; cases r; rfl
theorem me_and {a b : E} {x y : Expr} {rest : List Expr} {pos : Pos} (ha : PE X x (TEm J (evE C a))) (hb : PE X (.BoolOp .And (y :: rest) pos) (TEm J (evE C b))) : PE X (.BoolOp .And (x :: y :: rest) pos) (TEm J (evE C (.and_ a b))) :=
  PE.weak (pe_and ha hb) fun σ H Q ⟨w, env, mh, R, o⟩ => by
    refine ⟨w, env, mh, R, (OG.bind (rel := RvOk J.T) o).mono fun v H1 ⟨w1, rv, mh1, _, x1, R1, r1, o1⟩ => ?_⟩
    split at o1
    · refine ⟨true, tB_of r1 rfl, ?_⟩
      rw [if_pos rfl]
      exact ⟨w1, env, mh1, R.ext x1 R1, o1⟩
    · refine ⟨false, tB_of r1 rfl, ?_⟩
      rw [if_neg (by simp)]
      exact o1.val R1 (.bl _)
    · exact o1.elim
theorem me_or {a b : E} {x y : Expr} {rest : List Expr} {pos : Pos} (ha : PE X x (TEm J (evE C a))) (hb : PE X (.BoolOp .Or (y :: rest) pos) (TEm J (evE C b))) : PE X (.BoolOp .Or (x :: y :: rest) pos) (TEm J (evE C (.or_ a b))) :=
  PE.weak (pe_or ha hb) fun σ H Q ⟨w, env, mh, R, o⟩ => by
    refine ⟨w, env, mh, R, (OG.bind (rel := RvOk J.T) o).mono fun v H1 ⟨w1, rv, mh1, _, x1, R1, r1, o1⟩ => ?_⟩
    split at o1
    · refine ⟨false, tB_of r1 rfl, ?_⟩
      rw [if_neg (by simp)]
      exact ⟨w1, env, mh1, R.ext x1 R1, o1⟩
    · refine ⟨true, tB_of r1 rfl, ?_⟩
      rw [if_pos rfl]
      exact o1.val R1 (.bl _)
    · exact o1.elim
theorem mw_and {a b : E} {x y : Expr} {rest : List Expr} {pos : Pos} (ha : PT X x (TTm J (evT C a))) (hb : PW X (.BoolOp .And (y :: rest) pos) (TTm J (evT C b))) : PW X (.BoolOp .And (x :: y :: rest) pos) (TTm J (evT C (.and_ a b))) :=
  PW.weak (pw_and ha hb) fun σ H Q ⟨w, env, mh, R, o⟩ => by
    refine ⟨w, env, mh, R, (OG.bind (rel := relB) o).mono fun v H1 ⟨w1, rv, mh1, _, x1, R1, r1, o1⟩ => ?_⟩
    cases (show v = rv from r1)
    cases v with
    | true => rw [if_pos rfl]; exact ⟨w1, env, mh1, R.ext x1 R1, o1⟩
    | false => rw [if_neg (by simp)]; exact OG.now (rel := relB) o1 R1 rfl
theorem mw_or {a b : E} {x y : Expr} {rest : List Expr} {pos : Pos} (ha : PT X x (TTm J (evT C a))) (hb : PW X (.BoolOp .Or (y :: rest) pos) (TTm J (evT C b))) : PW X (.BoolOp .Or (x :: y :: rest) pos) (TTm J (evT C (.or_ a b))) :=
  PW.weak (pw_or ha hb) fun σ H Q ⟨w, env, mh, R, o⟩ => by
    refine ⟨w, env, mh, R, (OG.bind (rel := relB) o).mono fun v H1 ⟨w1, rv, mh1, _, x1, R1, r1, o1⟩ => ?_⟩
    cases (show v = rv from r1)
    cases v with
    | true => rw [if_pos rfl]; exact OG.now (rel := relB) o1 R1 rfl
    | false => rw [if_neg (by simp)]; exact ⟨w1, env, mh1, R.ext x1 R1, o1⟩
theorem un_notM : UnR X (unaryOp .Not) (fun x H Q => rTruM J.T.g x H fun b H' => Q (.bl !b) H') := by
  intro pins s σ H x v Q I rx h
  exact not_of (thn (tru_M (g := J.T.g) pins s σ H x v _ I rx h) fun b s1 ⟨H1, I1, q⟩ => ⟨.bl _, H1, I1, rfl, q⟩)
theorem me_not {a : E} {x : Expr} {pos : Pos} (ha : PE X x (TEm J (evE C a))) : PE X (.UnaryOp .Not x pos) (TEm J (evE C (.not_ a))) :=
  PE.weak (pe_un (un_notM (J := J)) ha) fun σ H Q ⟨w, env, mh, R, o⟩ => by
    refine ⟨w, env, mh, R, (OG.bind (rel := RvOk J.T) o).mono fun v H1 ⟨w1, rv, mh1, _, x1, R1, r1, o1⟩ => ?_⟩
    split at o1
    · rename_i d hd
      unfold ofB at o1
      split at o1
      · rename_i b hb
        have e := map_not hb
        exact ⟨w1.F, d, !b, r1.view R1 hd, e, by show Q (.bl !!b) H1; rw [Bool.not_not]; exact o1.val R1 (.bl _)⟩
      · exact o1.elim
    · exact o1.elim
theorem mt_not {a : E} {x : Expr} {pos : Pos} (ha : PT X x (TTm J (evT C a))) : PT X (.UnaryOp .Not x pos) (TTm J (evT C (.not_ a))) :=
  PT.weak (pt_not ha) fun σ H Q ⟨w, env, mh, R, o⟩ => by
    refine ⟨w, env, mh, R, (OG.bind (rel := relB) o).mono fun v H1 ⟨w1, rv, mh1, _, x1, R1, r1, o1⟩ => ?_⟩
    cases (show v = rv from r1)
    exact OG.now (rel := relB) o1 R1 rfl
theorem me_ite {c a b : E} {x y z : Expr} {pos : Pos} (hc : PT X x (TTm J (evT C c))) (ha : PE X y (TEm J (evE C a))) (hb : PE X z (TEm J (evE C b))) : PE X (.IfExp x y z pos) (TEm J (evE C (.ite c a b))) :=
  PE.weak (pe_ifExp hc ha hb) fun σ H Q ⟨w, env, mh, R, o⟩ => by
    refine ⟨w, env, mh, R, (OG.bind (rel := relB) o).mono fun v H1 ⟨w1, rv, mh1, _, x1, R1, r1, o1⟩ => ?_⟩
    cases (show v = rv from r1)
    cases v with
    | true => rw [if_pos rfl]; exact ⟨w1, env, mh1, R.ext x1 R1, o1⟩
    | false => rw [if_neg (by simp)]; exact ⟨w1, env, mh1, R.ext x1 R1, o1⟩
theorem mt_ite {c a b : E} {x y z : Expr} {pos : Pos} (hc : PT X x (TTm J (evT C c))) (ha : PT X y (TTm J (evT C a))) (hb : PT X z (TTm J (evT C b))) : PT X (.IfExp x y z pos) (TTm J (evT C (.ite c a b))) := by
  refine ⟨fun pins s σ H Q I ⟨w, env, mh, R, o⟩ => ?_⟩
  have q : TTm J (evT C c) σ H fun v H1 => if v = true then TTm J (evT C a) σ H1 Q else TTm J (evT C b) σ H1 Q := by
    refine ⟨w, env, mh, R, (OG.bind (rel := relB) o).mono fun v H1 ⟨w1, rv, mh1, _, x1, R1, r1, o1⟩ => ?_⟩
    cases (show v = rv from r1)
    cases v with
    | true => rw [if_pos rfl]; exact ⟨w1, env, mh1, R.ext x1 R1, o1⟩
    | false => rw [if_neg (by simp)]; exact ⟨w1, env, mh1, R.ext x1 R1, o1⟩
  show wpAny _ _ (do if ← isTrue x X.env (eval x X.env) then isTrue y X.env (eval y X.env) else isTrue z X.env (eval z X.env)) _ _ s
  refine wpAny_bind (thn (hc.run pins s σ H _ I q) fun v s1 ⟨H1, I1, q1⟩ => ?_)
  cases v with
  | true => rw [if_pos rfl] at q1; exact ha.run pins s1 σ H1 Q I1 q1
  | false => rw [if_neg (by simp)] at q1; exact hb.run pins s1 σ H1 Q I1 q1
/-- a value's test -/
theorem mt_val {a : E} {x : Expr} (ha : PE X x (TEm J (evE C a))) (hm : (evP C a).2 = (tv (evP C a).1).2) (he : ∀ whole, isTrue x X.env whole = (do let v ← whole; standAt x.pos; holding [v] (truthy v))) : PT X x (TTm J (evT C a)) := by
  refine PT.weak (show PT X x (fun σ H Q => TEm J (evE C a) σ H fun v H1 => rTruM J.T.g v H1 Q) from ⟨fun pins s σ H Q I h => isTrue_plain (thn (ha.run pins s σ H _ I h) fun v s1 ⟨y, H1, I1, r1, q1⟩ => tru_M pins s1 σ H1 y v Q I1 r1 q1) (he _)⟩) fun σ H Q ⟨w, env, mh, R, o⟩ => ?_
  have o : OG J.T relB (fun c d H' => J.W c d σ H') w H ((evP C a).2 env mh) Q := o
  rw [hm] at o
  refine ⟨w, env, mh, R, (OG.bind (rel := RvOk J.T) o).mono fun v H1 ⟨w1, rv, mh1, _, x1, R1, r1, o1⟩ => ?_⟩
  split at o1
  · rename_i d hd
    unfold ofT at o1
    split at o1
    · rename_i b hb
      exact ⟨w1.F, d, b, r1.view R1 hd, hb, OG.now (rel := relB) o1 R1 rfl⟩
    · exact o1.elim
  · exact o1.elim

/-! ### displays, subscripts, slices -/
theorem me_tup {es : Es} {xs : List Expr} {k : Nat} {pos : Pos} (h : PA X xs (TDm J (evEs C es))) : PE X (.Tuple xs k pos) (TEm J (evE C (.tup es))) :=
  PE.weak (pe_tupF h) fun σ H Q ⟨w, env, mh, R, o⟩ => by
    refine ⟨w, env, mh, R, (OG.bind (rel := relDs J.T.g) o).mono fun vs H1 ⟨w1, ds, mh1, _, x1, R1, r1, o1⟩ => ?_⟩
    split at o1
    · rename_i hb
      exact ⟨by rw [DvA.length r1]; exact big_le hb, fun p ob hp ho => o1.newD R1 (.tup hp ho r1)⟩
    · exact o1.elim
theorem mf_lst {es : Es} {xs : List Expr} {pos : Pos} (h : PA X xs (TDm J (evEs C es))) : PE X (.List xs pos) (TEf J (evE C (.lst es))) :=
  PE.weak (pe_lst h) fun σ H Q ⟨w, env, mh, R, o⟩ => by
    refine ⟨w, env, mh, R, (OG.bind (rel := relDs J.T.g) o).mono fun vs H1 ⟨w1, ds, mh1, _, x1, R1, r1, o1⟩ => ?_⟩
    split at o1
    · rename_i hb
      exact ⟨by rw [DvA.length r1]; exact big_le hb, fun p hp => NewF.fresh o1 R1 (x1.old R1) (.lst p vs ds hp r1)⟩
    · exact o1.elim
theorem me_idx {a b : E} {x y : Expr} {pos : Pos} (hg : J.T.g = ⟨X.prog, X.w⟩) (hu : X.A.units + 200 < cLine) (ha : PE X x (TEm J (evE C a))) (hb : PE X y (TEm J (evE C b))) (hp : plainX y = true) : PE X (.Subscript x y pos) (TEm J (evE C (.idx a b))) :=
  PE.weak (pe_ix (ix_M hg hu) ha hb (plainIx_of hp)) fun σ H Q ⟨w, env, mh, R, o⟩ => by
    refine ⟨w, env, mh, R, (OG.bind (rel := RvOk J.T) o).mono fun v H1 ⟨w1, rv, mh1, _, x1, R1, r1, o1⟩ => ?_⟩
    refine ⟨w1, env, mh1, R.ext x1 R1, (OG.bind (rel := RvOk J.T) o1).mono fun u H2 ⟨w2, ru, mh2, _, x2, R2, r2, o2⟩ => ?_⟩
    split at o2
    · rename_i d e h1 h2
      unfold ofD at o2
      split at o2
      · rename_i r hr
        exact ⟨w2.F, d, e, r, (x2.rv r1).view R2 h1, r2.view R2 h2, hr, fun v' n => o2.val R2 n⟩
      · exact o2.elim
    · exact o2.elim
def optX (b : Bool) (x : Expr) : Option Expr := if b then some x else none
/-- a slice's part -/
def relO (_ : Wd) (_ : Hp) (o o' : Option Int) : Prop := o = o'
def TOm (J : Jd) (m : MEnv → MH → Out (Option Int)) : TO := fun σ H Q => ∃ w env mh, Rel J.T J.B w env mh σ H ∧ OG J.T Mn.relO (fun c d H' => J.W c d σ H') w H (m env mh) Q
theorem PO.weak {e : Option Expr} {t t' : TO} (h : PO X e t) (k : ∀ σ H Q, t' σ H Q → t σ H Q) : PO X e t' := ⟨fun pins s σ H Q I q => h.run pins s σ H Q I (k σ H Q q)⟩
theorem mo_part {b : Bool} {e : E} {x : Expr} (h : b = true → PE X x (TEm J (evE C e))) : PO X (optX b x) (TOm J (partO b (evE C e))) := by
  cases b with
  | true =>
    refine PO.weak (po_some (h rfl)) fun σ H Q ⟨w, env, mh, R, o⟩ => ?_
    have o : OG J.T Mn.relO (fun c d H' => J.W c d σ H') w H (((evE C e) env mh).bind fun y mh => (match y with | .dat (.int i) => .ok (some i) mh | _ => .stuck)) Q := o
    refine ⟨w, env, mh, R, (OG.bind (rel := RvOk J.T) o).mono fun v H1 ⟨w1, rv, mh1, _, x1, R1, r1, o1⟩ => ?_⟩
    split at o1
    · cases r1
      exact ⟨_, rfl, OG.now (rel := Mn.relO) o1 R1 rfl⟩
    · exact o1.elim
  | false =>
    refine PO.weak po_none fun σ H Q ⟨w, env, mh, R, o⟩ => ?_
    exact OG.now (rel := Mn.relO) o R.h rfl
theorem me_slc {lo hi : Bool} {a l h : E} {x y z : Expr} {pos p2 : Pos} (ha : PE X x (TEm J (evE C a))) (hl : lo = true → PE X y (TEm J (evE C l))) (hh : hi = true → PE X z (TEm J (evE C h))) : PE X (.Subscript x (.Slice (optX lo y) (optX hi z) none p2) pos) (TEm J (evE C (.slc lo hi a l h))) :=
  PE.weak (pe_slice (sl_M (g := J.T.g)) ha (mo_part hl) (mo_part hh)) fun σ H Q ⟨w, env, mh, R, o⟩ => by
    refine ⟨w, env, mh, R, (OG.bind (rel := RvOk J.T) o).mono fun v H1 ⟨w1, rv, mh1, _, x1, R1, r1, o1⟩ => ?_⟩
    refine ⟨w1, env, mh1, R.ext x1 R1, (OG.bind (rel := Mn.relO) o1).mono fun p H2 ⟨w2, p', mh2, _, x2, R2, r2, o2⟩ => ?_⟩
    cases (show p = p' from r2)
    refine ⟨w2, env, mh2, (R.ext x1 R1).ext x2 R2, (OG.bind (rel := Mn.relO) o2).mono fun q H3 ⟨w3, q', mh3, _, x3, R3, r3, o3⟩ => ?_⟩
    cases (show q = q' from r3)
    split at o3
    · rename_i d hd
      unfold ofD at o3
      split at o3
      · rename_i r hr
        exact ⟨w3.F, d, r, (x3.rv (x2.rv r1)).view R3 hd, hr, fun v' H' n => o3.newD R3 n⟩
      · exact o3.elim
    · exact o3.elim

/-! ### built-in functions -/
theorem mB {b : Blt} {es : Es} {t : TA} (hv : ∀ σ H (Q : VK), TEm J (evE C (.blt b es)) σ H Q → t σ H fun xs H1 => rBltM J.T.g b xs H1 Q) : True := trivial
theorem tBlt {b : Blt} {es : Es} {σ : L2.St} {H : Hp} {Q : VK} (h : TEm J (evE C (.blt b es)) σ H Q) : TVm J (evVs C es) σ H fun xs H1 => rBltM J.T.g b xs H1 Q := by
  obtain ⟨w, env, mh, R, o⟩ := h
  refine ⟨w, env, mh, R, (OG.bind (rel := RvsOk J.T) o).mono fun vs H1 ⟨w1, rs, mh1, _, x1, R1, r1, o1⟩ => ?_⟩
  split at o1
  · rename_i ds hd
    unfold ofD at o1
    split at o1
    · rename_i r hr
      exact ⟨w1.F, ds, r, views_ok R1 r1 hd, hr, fun v H' n => o1.newD R1 n⟩
    · exact o1.elim
  · exact o1.elim
theorem tBltF {b : Blt} {es : Es} {σ : L2.St} {H : Hp} {Q : VK} (h : TEf J (evE C (.blt b es)) σ H Q) : TVm J (evVs C es) σ H fun xs H1 => rBltF J.T.g b xs H1 Q := by
  obtain ⟨w, env, mh, R, o⟩ := h
  refine ⟨w, env, mh, R, (OG.bind (rel := RvsOk J.T) o).mono fun vs H1 ⟨w1, rs, mh1, _, x1, R1, r1, o1⟩ => ?_⟩
  split at o1
  · rename_i ds hd
    unfold ofD at o1
    split at o1
    · rename_i r hr
      exact ⟨w1.F, ds, r, views_ok R1 r1 hd, hr, fun v H' n => NewF.fresh o1 R1 (x1.old R1) n⟩
    · exact o1.elim
  · exact o1.elim
/-- a built-in's name -/
def Blt.fn : Blt → Option Str
  | .len => some "len"
  | .sorted => some "sorted"
  | .all => some "all"
  | .any => some "any"
  | .abs => some "abs"
  | .min2 => some "min"
  | _ => none
def Blt.ty : Blt → Option Str
  | .tup => some "tuple"
  | .lst => some "list"
  | .dct => some "dict"
  | .int => some "int"
  | .str => some "str"
  | _ => none
def Blt.id : Blt → String
  | .len => "len"
  | .sorted => "sorted"
  | .all => "all"
  | .any => "any"
  | .abs => "abs"
  | .min2 => "min"
  | .tup => "tuple"
  | .lst => "list"
  | .dct => "dict"
  | .int => "int"
  | .str => "str"
def Blt.isTy : Blt → Bool
  | .tup => true
  | .lst => true
  | .dct => true
  | .int => true
  | .str => true
  | _ => false
def Blt.cool : Blt → Bool
  | .all => true
  | .any => true
  | .min2 => true
  | .dct => true
  | _ => false
def Blt.fresh : Blt → Bool
  | .lst => true
  | .dct => true
  | .sorted => true
  | _ => false
def Blt.val (b : Blt) : Value := if b.isTy then .type b.id else .builtin b.id
theorem cb_any' {b : Blt} {g : Pw} (hg : g = ⟨X.prog, X.w⟩) (hu : X.A.units + 200 < cLine) (hc : b.cool = true → X.calm = true) (hf : b.fresh = false) : CallR X b.val (rBltM g b) := by
  cases b with
  | len => exact cb_len hg
  | tup => exact cb_tup
  | lst => cases hf
  | dct => cases hf
  | sorted => cases hf
  | all => exact cb_all (hc rfl)
  | any => exact cb_any (hc rfl)
  | int => exact cb_int
  | str => exact cb_str
  | abs => exact cb_abs
  | min2 => exact cb_min (hc rfl)
theorem cb_new' {b : Blt} {g : Pw} (hu : X.A.units + 200 < cLine) (hc : b.cool = true → X.calm = true) (hf : b.fresh = true) : CallR X b.val (rBltF g b) := by
  cases b with
  | lst => exact cb_lst
  | dct => exact cb_dct (hc rfl)
  | sorted => exact cb_sorted hu
  | _ => cases hf
theorem Blt.boot (b : Blt) : bootBuiltins b.id = some b.val := by cases b <;> first | rfl | decide +kernel
theorem pe_blt {b : Blt} {r : List V → Hp → VK → Prop} {e : Expr} {es : List Expr} {t : TA} {p pos : Pos} (hr : CallR X b.val r) (hg : Gl X b.id) (hm : X.mg b.id = none) (ha : PA X (e :: es) t) (hp : (e :: es).all plainX = true) : PE X (.Call (.Name b.id p) (e :: es) [] pos) (tCB r t) := by
  rw [List.all_cons, Bool.and_eq_true] at hp
  have hv := b.boot
  have h1 : (b.id : Str) ≠ "__name__" := by cases b <;> decide
  have h2 : ((b.id : Str) == ("__debug__" : Str)) = false := by cases b <;> decide
  unfold Blt.val at hr hv
  cases hb : b.isTy with
  | true =>
    rw [hb, if_pos rfl] at hr hv
    exact pe_callTy hr hg hm hv ha h1 h2 (star_of hp.1) (star_any hp.2)
  | false =>
    rw [hb, if_neg (by simp)] at hr hv
    exact pe_callB hr hg hm hv ha h1 h2 (star_of hp.1) (star_any hp.2)
theorem me_blt {b : Blt} {es : Es} {x : Expr} {xs : List Expr} {p pos : Pos} (hgg : J.T.g = ⟨X.prog, X.w⟩) (hu : X.A.units + 200 < cLine) (hc : b.cool = true → X.calm = true) (hf : b.fresh = false) (hg : Gl X b.id) (hm : X.mg b.id = none) (ha : PA X (x :: xs) (TVm J (evVs C es))) (hp : (x :: xs).all plainX = true) :
    PE X (.Call (.Name b.id p) (x :: xs) [] pos) (TEm J (evE C (.blt b es))) :=
  PE.weak (pe_blt (cb_any' hgg hu hc hf) hg hm ha hp) fun σ H Q h => tBlt h
theorem mf_blt {b : Blt} {es : Es} {x : Expr} {xs : List Expr} {p pos : Pos} (hu : X.A.units + 200 < cLine) (hc : b.cool = true → X.calm = true) (hf : b.fresh = true) (hg : Gl X b.id) (hm : X.mg b.id = none) (ha : PA X (x :: xs) (TVm J (evVs C es))) (hp : (x :: xs).all plainX = true) :
    PE X (.Call (.Name b.id p) (x :: xs) [] pos) (TEf J (evE C (.blt b es))) :=
  PE.weak (pe_blt (cb_new' (g := J.T.g) hu hc hf) hg hm ha hp) fun σ H Q h => tBltF h
/-- list(), dict() with nothing are not served; isinstance of a built-in class -/
theorem bootTy (t : Ty) (ht : t ≠ .lt) : bootBuiltins t.name = some (.type t.name) := by cases t <;> first | exact absurd rfl ht | rfl | decide +kernel
theorem me_isi {a : E} {t : Ty} {x : Expr} {p p2 pos : Pos} (hgg : J.T.g = ⟨X.prog, X.w⟩) (ht : t ≠ .lt) (hg : Gl X "isinstance") (hm : X.mg "isinstance" = none) (hg2 : Gl X t.name) (hm2 : X.mg t.name = none) (ha : PE X x (TEm J (evE C a))) (hp : plainX x = true) :
    PE X (.Call (.Name "isinstance" p) [x, .Name t.name p2] [] pos) (TEm J (evE C (.isi a t))) := by
  have hn1 : (t.name : Str) ≠ "__name__" := by cases t <;> decide
  have hn2 : ((t.name : Str) == ("__debug__" : Str)) = false := by cases t <;> decide
  have hT : PE X (.Name t.name p2) (tC (.ty t.name)) := pe_bltn hg2 hm2 (bootTy t ht) rfl hn1 hn2
  refine PE.weak (pe_callB (cb_isi hgg t) hg hm (by decide +kernel) (pa_cons ha (pa_cons hT pa_nil (star_of rfl)) (star_of hp)) (by decide) (by decide) (star_of hp) (star_any (es := [.Name t.name p2]) rfl)) fun σ H Q ⟨w, env, mh, R, o⟩ => ?_
  refine ⟨w, env, mh, R, (OG.bind (rel := RvOk J.T) o).mono fun v H1 ⟨w1, rv, mh1, _, x1, R1, r1, o1⟩ => ?_⟩
  split at o1
  · rename_i d hd
    exact ⟨w1.F, v, d, rfl, ht, r1.view R1 hd, o1.val R1 (.bl _)⟩
  · exact o1.elim
end
end Mn
end
section
set_option linter.all false
set_option autoImplicit false
set_option maxRecDepth 100000
/-! Mini: rules for calls, methods, comprehensions. -/
namespace Mn
open PySem PySem.Spec PyProof.Rows L2

/-- what a def does, as the hand layer asks it -/
def spM (T : Stat) (n : Nat) (m : List RV → MH → Out RV) : Sp := fun vs H Q E => ∃ w rs mh, RelH T w mh H ∧ RvsOk T w H vs rs ∧ rs.length = n ∧ OG T (RvN T H) E w H (m rs mh) Q
theorem RvsOk.length {T : Stat} {w : Wd} {H : Hp} : ∀ {vs : List V} {rs : List RV}, RvsOk T w H vs rs → vs.length = rs.length
  | _, _, .nil => rfl
  | _, _, .cons _ t => by rw [List.length_cons, List.length_cons, t.length]
/-- a def that the code may call -/
structure FnAt (X : Cx) (T : Stat) (x : Str) (n : Nat) (m : List RV → MH → Out RV) : Prop where
  fn : ∃ (k : Nat) (f : Addr) (fd : FuncData) (ps : List Str), FnOk X.prog X.w X.K X.mg X.base (L2.CX X.prog X.w) k f fd ps (spM T n m) ∧ Room k X.A ∧ X.mg x = some (.ref f) ∧ PySem.W.keepIn X.K (.ref f) = true ∧ Binds X.K fd ps []
  db : (x == ("__debug__" : Str)) = false
  len : ∀ rs mh, rs.length ≠ n → m rs mh = .stuck

section
variable {X : Cx} {J : Jd} {C : CallF}
theorem me_call {f n : Nat} {es : Es} {x : Str} {e : Expr} {xs : List Expr} {p pos : Pos} (F : FnAt X J.T x n (C.call f)) (tk : Takes X J.W) (hg : Gl X x) (ha : PA X (e :: xs) (TVm J (evVs C es))) (hp : (e :: xs).all plainX = true) :
    PE X (.Call (.Name x p) (e :: xs) [] pos) (TEc J (evE C (.call f es))) := by
  obtain ⟨k, a, fd, ps, F1, hr, hm, hk, hb⟩ := F.fn
  have hp' := hp
  rw [List.all_cons, Bool.and_eq_true] at hp'
  refine PE.weak (pe_callSD F1 hr hg hm hk hb .nil (fun σ => passAt tk σ) ha F.db (star_of hp'.1) (star_any hp'.2)) fun σ H Q ⟨w, env, mh, R, o⟩ => ?_
  refine ⟨w, env, mh, R, (OG.bind (rel := RvsOk J.T) o).mono fun vs H1 ⟨w1, rs, mh1, _, x1, R1, r1, o1⟩ => ?_⟩
  split at o1
  · have hl : rs.length = n := by
      by_cases q : rs.length = n
      · exact q
      · rw [F.len rs mh1 q] at o1; exact o1.elim
    rw [List.append_nil]
    exact ⟨w1, rs, mh1, R1, r1, hl, o1.rel fun w' H' b a x q => ⟨q.1, fun h ad e => x1.old R1 ad (q.2 h ad e)⟩⟩
  · exact o1.elim

/-! ### a call that sees no cell -/
def backW (w1 w2 : Wd) (H1 : Hp) : Wd := ⟨fun x => w1.F x ∨ (w2.F x ∧ H1 x = none), w1.cs⟩
theorem back_ext {w0 w1 w2 : Wd} {H1 H2 : Hp} (x : Ext w0 H1 w2 H2) (h0 : w0.cs = []) : Ext w1 H1 (backW w1 w2 H1) H2 where
  F := fun _ h => .inl h
  F' := fun a h => by
    rcases h with h | h
    · exact .inl h
    · exact .inr (.inl h.2)
  cs := ⟨[], by simp [backW]⟩
  cs' := fun _ h => .inl h
  H := fun a o e _ => x.there e (by rw [h0]; simp)
theorem back_rel {T : Stat} {w0 w1 w2 : Wd} {H1 H2 : Hp} {mh mh' : MH} (x : Ext w0 H1 w2 H2) (h0 : w0.cs = []) (R1 : RelH T w1 mh H1) (R2 : RelH T w2 mh' H2) : RelH T (backW w1 w2 H1) mh H2 where
  len := R1.len
  nd := R1.nd
  thF := fun a h => by
    rcases h with h | h
    · obtain ⟨o, e⟩ := R1.thF a h
      exact ⟨o, x.there e (by rw [h0]; simp)⟩
    · exact R2.thF a h.1
  thC := fun a h => by
    obtain ⟨o, e⟩ := R1.thC a h
    exact ⟨o, x.there e (by rw [h0]; simp)⟩
  ok := fun n c a h1 h2 => (R1.ok n c a h1 h2).ext (back_ext x h0) fun o e => x.there e (by rw [h0]; simp)
  live := fun n c a h1 h2 h3 h => by
    rcases h with h | h
    · exact R1.live n c a h1 h2 h3 h
    · obtain ⟨o, e⟩ := R1.thC a (List.mem_of_getElem? h2)
      rw [h.2] at e; cases e
theorem back_F {w0 w1 w2 : Wd} {H1 H2 : Hp} (x : Ext w0 H1 w2 H2) (h0 : w0.cs = []) {a : Addr} (h : w2.F a) (k : w0.F a → w1.F a) : (backW w1 w2 H1).F a := by
  rcases x.F' a h with q | q | q
  · exact .inl (k q)
  · exact .inr ⟨h, q⟩
  · rw [h0] at q; cases q
/-! data with neither list nor dict leans on tuples alone -/
mutual
theorem Dv.noLd {g : Pw} {F F' : Addr → Prop} {H : Hp} (k : ∀ a xs, F a → TupAt H a xs → F' a) : ∀ {v : V} {d : PyData}, Dv g F H v d → noLd d = true → Dv g F' H v d
  | _, _, .non, _ => .non
  | _, _, .bl b, _ => .bl b
  | _, _, .int i, _ => .int i
  | _, _, .str x, _ => .str x
  | _, _, .lst _ _ _, h => by cases h
  | _, _, .tup f r t, h => .tup (k _ _ f r) r (DvA.noLd k t h)
  | _, _, .dK _ _ _, h => by cases h
  | _, _, .dT _ _ _, h => by cases h
theorem DvA.noLd {g : Pw} {F F' : Addr → Prop} {H : Hp} (k : ∀ a xs, F a → TupAt H a xs → F' a) : ∀ {v : List V} {d : List PyData}, DvA g F H v d → noLd.noLdA d = true → DvA g F' H v d
  | _, _, .nil, _ => .nil
  | _, _, .cons r t, h => by
    have h : (Mn.noLd _ && noLd.noLdA _) = true := h
    rw [Bool.and_eq_true] at h
    exact .cons (Dv.noLd k r h.1) (DvA.noLd k t h.2)
end
/-- what is lent to a call -/
def lent (w : Wd) (H : Hp) (vs : List V) (b : Bool) : Wd := ⟨fun x => w.F x ∨ (b = false ∧ V.ref x ∈ vs ∧ ∃ o, H x = some o ∧ (∀ ob xs, o ≠ .frz ob (.tup xs)) ∧ ∀ fs, o ≠ .xd fs), []⟩
theorem views_len {mh : MH} : ∀ {rs : List RV} {ds : List PyData}, views mh rs = some ds → rs.length = ds.length
  | [], ds, e => by cases (Option.some.inj (show some [] = some ds from e)); rfl
  | r :: rs, ds, e => by
    unfold views at e
    split at e
    · rename_i d ds' e1 e2
      cases e
      rw [List.length_cons, List.length_cons, views_len e2]
    · cases e
theorem lent_ok {T : Stat} {w : Wd} {mh : MH} {H : Hp} {b : Bool} (R : RelH T w mh H) (all : List V) : ∀ {vs : List V} {rs : List RV} {ds : List PyData}, RvsOk T w H vs rs → views mh rs = some ds → (b = true → rs.all RV.isDat = true) → (∀ v ∈ vs, v ∈ all) → RvsOk T (lent w H all b) H vs (ds.map .dat)
  | _, _, _, .nil, e, _, _ => by cases (Option.some.inj (show some [] = some _ from e)); exact .nil
  | _, _, ds, .cons (v := v) (r := r) (rs := rs) h t, e, hb, ha => by
    unfold views at e
    split at e
    · rename_i d ds' e1 e2
      cases e
      refine .cons ?_ (lent_ok R all t e2 (fun q => by have z := hb q; rw [List.all_cons, Bool.and_eq_true] at z; exact z.2) fun v hv => ha v (List.mem_cons_of_mem _ hv))
      show Dv T.g (lent w H all b).F H v d
      have mono : ∀ {u : V} {c : PyData}, Dv T.g w.F H u c → Dv T.g (lent w H all b).F H u c := fun q => q.mono (fun _ z => .inl z) fun _ _ _ z => z
      have q := h.view R e1
      rcases q with q | ⟨a, xs, es, rfl, h1, h2, rfl⟩ | ⟨a, kvs, ps, rfl, h1, h2, rfl⟩ | ⟨a, kvs, ps, rfl, h1, h2, rfl⟩
      · exact mono q
      all_goals
        cases b with
        | true =>
          have z := hb rfl
          rw [List.all_cons, Bool.and_eq_true] at z
          cases r with
          | dat d' => cases (Option.some.inj e1); exact mono h
          | _ => cases z.1
        | false =>
          have hl : (lent w H all false).F a := by
            refine .inr ⟨rfl, ha _ List.mem_cons_self, ?_⟩
            rcases h1 with h1 | ⟨o, h1⟩
            · exact ⟨_, h1, (fun ob xs z => nomatch z), (fun fs z => nomatch z)⟩
            · exact ⟨_, h1, (fun ob xs z => nomatch z), (fun fs z => nomatch z)⟩
          first
          | exact .lst hl h1 (h2.mono (fun _ z => .inl z) fun _ _ _ z => z)
          | exact .dK hl h1 (h2.mono (fun _ z => .inl z) fun _ _ _ z => z)
          | exact .dT hl h1 (h2.mono (fun _ z => .inl z) fun _ _ _ z => z)
    · cases e
theorem lent_rel {T : Stat} {w : Wd} {mh : MH} {H : Hp} {b : Bool} {vs : List V} (R : RelH T w mh H) : RelH T (lent w H vs b) [] H where
  len := rfl
  nd := List.nodup_nil
  thF := fun a h => by
    rcases h with h | ⟨_, _, o, e, _⟩
    · exact R.thF a h
    · exact ⟨o, e⟩
  thC := fun a h => by cases h
  ok := fun n c a h => by simp at h
  live := fun n c a h => by simp at h
theorem pure_og {T : Stat} {W : XK} {w1 : Wd} {H1 : Hp} {mh : MH} {b : Bool} {vs : List V} {r : Out RV} {Q : VK} {rel : Wd → Hp → V → RV → Prop} (R1 : RelH T w1 mh H1) (o : OG T (RvN T H1) W w1 H1 (pureCall b r mh) Q) :
    OG T (RvN T H1) W (lent w1 H1 vs b) H1 r Q := by
  -- what is frozen behind the call is frozen for the caller, or lent
  have kF : ∀ {w2 : Wd} {H2 : Hp}, Ext (lent w1 H1 vs b) H1 w2 H2 → b = true → ∀ a, w2.F a → (backW w1 w2 H1).F a := fun x hb a h => back_F x rfl h fun q => by
    rcases q with q | ⟨q, _⟩
    · exact q
    · rw [hb] at q; cases q
  have kT : ∀ {w2 : Wd} {H2 : Hp}, Ext (lent w1 H1 vs b) H1 w2 H2 → ∀ a xs, w2.F a → TupAt H2 a xs → (backW w1 w2 H1).F a := fun x a xs h t => back_F x rfl h fun q => by
    rcases q with q | ⟨_, _, o, e, ne, _⟩
    · exact q
    · obtain ⟨ob, e2, _⟩ := t
      have := x.there e (by simp [lent])
      rw [this] at e2
      cases e2
      exact absurd rfl (ne _ _)
  have dv : ∀ {w2 : Wd} {H2 : Hp} {v : V} {d : PyData}, Ext (lent w1 H1 vs b) H1 w2 H2 → (b || noLd d) = true → Dv T.g w2.F H2 v d → Dv T.g (backW w1 w2 H1).F H2 v d := fun {w2 H2 v d} x hb q => by
    cases hB : b with
    | true => exact q.mono (kF x hB) fun _ _ _ z => z
    | false => rw [hB, Bool.false_or] at hb; exact q.noLd (kT x) hb
  cases r with
  | ok rv mh' =>
    cases rv with
    | dat d =>
      intro w2 v H2 x R2 q
      have o : OG T (RvN T H1) W w1 H1 (if (b || noLd d) = true then .ok (.dat d) mh else .stuck) Q := o
      split at o
      · rename_i hb
        exact o (backW w1 w2 H1) v H2 (back_ext x rfl) (back_rel x rfl R1 R2) ⟨dv x hb q.1, fun z => by cases z⟩
      · exact o.elim
    | olst ds =>
      intro w2 v H2 x R2 q
      have o : OG T (RvN T H1) W w1 H1 (if (b || noLd.noLdA ds) = true then .ok (.olst ds) mh else .stuck) Q := o
      split at o
      · rename_i hb
        obtain ⟨⟨a, xs, rfl, h1, h2, h3, h4⟩, hn⟩ := q
        have hn := hn rfl a rfl
        refine o (backW w1 w2 H1) _ H2 (back_ext x rfl) (back_rel x rfl R1 R2) ⟨⟨a, xs, rfl, h1, ?_, fun z => ?_, fun z => ?_⟩, fun _ a' e => by cases e; exact hn⟩
        · cases hB : b with
          | true => exact h2.mono (kF x hB) fun _ _ _ z => z
          | false => rw [hB, Bool.false_or] at hb; exact h2.noLd (kT x) hb
        · obtain ⟨o', e⟩ := R1.thC a z
          rw [hn] at e; cases e
        · rcases z with z | z
          · obtain ⟨o', e⟩ := R1.thF a z
            rw [hn] at e; cases e
          · exact h4 z.1
      · exact o.elim
    | odct ps =>
      intro w2 v H2 x R2 q
      have o : OG T (RvN T H1) W w1 H1 (if b = true then .ok (.odct ps) mh else .stuck) Q := o
      split at o
      · rename_i hb
        obtain ⟨⟨a, rfl, h1, h3, h4⟩, hn⟩ := q
        have hn := hn rfl a rfl
        refine o (backW w1 w2 H1) _ H2 (back_ext x rfl) (back_rel x rfl R1 R2) ⟨⟨a, rfl, ?_, fun z => ?_, fun z => ?_⟩, fun _ a' e => by cases e; exact hn⟩
        · rcases h1 with ⟨kvs, h1, h2⟩ | ⟨kvs, h1, h2⟩
          · exact .inl ⟨kvs, h1, h2.mono (kF x hb) fun _ _ _ z => z⟩
          · exact .inr ⟨kvs, h1, h2.mono (kF x hb) fun _ _ _ z => z⟩
        · obtain ⟨o', e⟩ := R1.thC a z
          rw [hn] at e; cases e
        · rcases z with z | z
          · obtain ⟨o', e⟩ := R1.thF a z
            rw [hn] at e; cases e
          · exact h4 z.1
      · exact o.elim
    | ref n => exact o.elim
    | xcp c a => exact o.elim
  | exc y mh' =>
    intro w2 cls d H2 x R2 q
    have o : OG T (RvN T H1) W w1 H1 (if (b || (match y.arg with | some d => noLd d | none => true)) = true then .exc y mh else .stuck) Q := o
    obtain ⟨c, ar⟩ := y
    cases ar with
    | none =>
      have o : OG T (RvN T H1) W w1 H1 (if (b || true) = true then .exc ⟨c, none⟩ mh else .stuck) Q := o
      rw [Bool.or_true, if_pos rfl] at o
      exact o (backW w1 w2 H1) cls d H2 (back_ext x rfl) (back_rel x rfl R1 R2) q
    | some z =>
      have o : OG T (RvN T H1) W w1 H1 (if (b || noLd z) = true then .exc ⟨c, some z⟩ mh else .stuck) Q := o
      split at o
      · rename_i hb
        obtain ⟨h1, p, v, e, f, hp, r⟩ := q
        refine o (backW w1 w2 H1) cls d H2 (back_ext x rfl) (back_rel x rfl R1 R2) ⟨h1, p, v, e, ?_, hp, dv x hb r⟩
        refine back_F x rfl f fun q => ?_
        rcases q with q | ⟨_, hm, o', e', _, nx⟩
        · exact q
        · have := x.there e' (by simp [lent])
          rw [this] at hp
          cases hp
          exact absurd rfl (nx _)
      · exact o.elim
  | stuck => exact o.elim
theorem me_pcall {f n : Nat} {es : Es} {x : Str} {e : Expr} {xs : List Expr} {p pos : Pos} (F : FnAt X J.T x n (C.call f)) (tk : Takes X J.W) (hg : Gl X x) (ha : PA X (e :: xs) (TVm J (evVs C es))) (hp : (e :: xs).all plainX = true) :
    PE X (.Call (.Name x p) (e :: xs) [] pos) (TEc J (evE C (.pcall f es))) := by
  obtain ⟨k, a, fd, ps, F1, hr, hm, hk, hb⟩ := F.fn
  have hp' := hp
  rw [List.all_cons, Bool.and_eq_true] at hp'
  refine PE.weak (pe_callSD F1 hr hg hm hk hb .nil (fun σ => passAt tk σ) ha F.db (star_of hp'.1) (star_any hp'.2)) fun σ H Q ⟨w, env, mh, R, o⟩ => ?_
  refine ⟨w, env, mh, R, (OG.bind (rel := RvsOk J.T) o).mono fun vs H1 ⟨w1, rs, mh1, _, x1, R1, r1, o1⟩ => ?_⟩
  split at o1
  · rename_i ds hd
    have hl : (ds.map RV.dat).length = n := by
      by_cases q : (ds.map RV.dat).length = n
      · exact q
      · rw [F.len _ _ q] at o1; exact o1.elim
    rw [List.append_nil]
    have o2 : OG J.T (RvN J.T H1) (fun c d H' => J.W c d σ H') w1 H1 (pureCall (rs.all RV.isDat) (C.call f (ds.map .dat) []) mh1) Q := o1.rel fun w' H' b a x q => ⟨q.1, fun h ad e => x1.old R1 ad (q.2 h ad e)⟩
    exact ⟨lent w1 H1 vs (rs.all RV.isDat), _, [], lent_rel R1, lent_ok R1 vs r1 hd (fun q => q) fun _ h => h, hl, pure_og (rel := RvOk J.T) R1 o2⟩
  · exact o1.elim
end
end Mn
end
section
set_option linter.all false
set_option autoImplicit false
set_option maxRecDepth 100000
/-! Mini: rules for methods, comprehensions, caught errors. -/
namespace Mn
open PySem PySem.Spec PyProof.Rows L2

/-- no call without arguments (super() and its like), by its head -/
def baseX : Expr → Bool
  | .Call _ _ _ _ => false
  | _ => true
theorem base_of {o : Expr} {m : Str} {env : Env} (h : baseX o = true) : attributeBase o m env (eval o env) = eval o env := by cases o <;> first | rfl | cases h
/-- the object's class -/
def TyIs (X : Cx) (T : String) (x : V) (H : Hp) : Prop := ∀ (pins : List (Addr × Obj)) (σ : L2.St) (s : Shared) (v : Value), Inv X pins σ H s → RelV x v → s.TypeIs v T ∧ ∀ a, v = .ref a → ∃ ob, s.heap.get? a = some ob ∧ ob.dict = none
section
variable {X : Cx} {J : Jd} {C : CallF}
theorem pe_bmG {o e : Expr} {es : List Expr} {to : TE} {t : TA} {name : Str} {apos cpos : Pos} {T id : String} {r : V → List V → Hp → VK → Prop} (pa : PlainAttrs T) (slot : Slot T name id) (hty : typeOf (.builtin id) = pure (.type "method_descriptor")) (hm : MtR X id r) (ho : PE X o to) (ha : PA X (e :: es) t)
    (hb : baseX o = true) (hp : (e :: es).all plainX = true) (hl : (e :: es).length < 29) (hline : (apos.endLine == cpos.line) = true) :
    PE X (.Call (.Attribute o name apos) (e :: es) [] cpos) (fun σ H Q => to σ H fun x H1 => TyIs X T x H1 ∧ t σ H1 fun xs H2 => r x xs H2 Q) := by
  refine ⟨fun pins s σ H Q I h => ?_⟩
  have hp' := hp
  rw [List.all_cons, Bool.and_eq_true] at hp'
  have hfew : ((backTo cpos (starEach (e :: es) X.env)).all (fun x => !x.1) && (backToKw cpos (keywordEach [] X.env)).all (fun x => x.1.isSome)
      && decide ((e :: es).length + ([] : List Keyword).length + (if ([] : List Keyword).isEmpty then 0 else 1) < 30)) = true := by
    rw [star_back hp]
    simp only [List.all_map]
    have h1 : ((e :: es).all ((fun x : Bool × Sem Value => !x.1) ∘ fun e => (false, eval e X.env))) = true := List.all_eq_true.mpr fun x _ => rfl
    rw [h1, Bool.true_and]
    show (true && decide ((e :: es).length + 0 + 0 < 30)) = true
    rw [Bool.true_and]
    exact decide_eq_true (by omega)
  refine wpAny_Call_method_late (base_of hb) hfew hline rfl (thn (ho.run pins s σ H _ I h) fun v s1 ⟨x, H1, I1, r1, ty, q1⟩ => ?_)
  obtain ⟨h1, h2⟩ := ty pins σ s1 v I1 r1
  refine ⟨T, id, pa, slot, hty, h1, h2, ?_⟩
  have hA := ha.run cpos pins s1 σ H1 _ I1 q1
  rw [star_of hp'.1] at hA ⊢
  refine Calls.callWith_builtin (by show (false || (backTo cpos (starEach es X.env)).any (·.1)) = false; rw [star_any hp'.2] <;> rfl) (Calls.evalArgs_plain ?_)
  exact thn hA fun us s2 ⟨vs, H2, I2, r2, q2⟩ => hm pins s2 σ H2 x vs v us Q I2 r1 r2 q2

/-! ### d.get(k, e), s.join(xs), xs.pop(i) -/
theorem ty_list {a : Addr} {xs : List V} {H : Hp} (h : Rd H a (.lst xs)) : TyIs X "list" (.ref a) H := fun pins σ s v I r => by
  cases (show v = .ref a from r)
  obtain ⟨z, its, n, rv, e⟩ := h.ok I.hok
  exact ⟨⟨_, e, rfl⟩, fun b q => by cases q; exact ⟨_, e, rfl⟩⟩
theorem ty_str {x : Str} {H : Hp} : TyIs X "str" (.str x) H := fun pins σ s v I r => by
  obtain ⟨t, rfl⟩ := (show ∃ t, v = .str x t from r)
  exact ⟨typeIs_str _ _ _, fun a e => nomatch e⟩
theorem ty_dict {g : Pw} {F : Addr → Prop} {v : V} {ps : List (PyData × PyData)} {H : Hp} (hg : g = ⟨X.prog, X.w⟩) (h : WOk g F H v (.dict ps)) : TyIs X "dict" v H := fun pins σ s u I r => by
  obtain ⟨a, rfl, hh⟩ := WOk.dict h
  cases (show u = .ref a from r)
  rcases hh with ⟨kvs, h1, r1⟩ | ⟨kvs, h1, r1⟩
  · obtain ⟨_, _, vs, _, o, es, ep, h4, h5, _⟩ := dk_rd I.hok h1
    exact ⟨⟨o, h4, h5.1⟩, fun b q => by cases q; exact ⟨o, h4, h5.2.1⟩⟩
  · obtain ⟨_, _, o, es, ep, h4, h5, _⟩ := td_rd hg I h1 r1
    exact ⟨⟨o, h4, h5.1⟩, fun b q => by cases q; exact ⟨o, h4, h5.2.1⟩⟩
def rGet2 (g : Pw) : V → List V → Hp → VK → Prop := fun x xs H Q => ∃ F kvs k y z e, xs = [y, z] ∧ WOk g F H x (.dict kvs) ∧ WOk g F H y k ∧ kindOk kvs k = true ∧ Dv g F H z e ∧ ∀ v, Dv g F H v ((dget kvs k).getD e) → Q v H
theorem mt_get2 {g : Pw} (hg : g = ⟨X.prog, X.w⟩) (hu : X.A.units + 200 < cLine) : MtR X "dict.get" (rGet2 g) := by
  intro pins s σ H x xs v us Q I rx rs h
  obtain ⟨F, kvs, k, y, z, e, rfl, hx, hy, c, hz, q⟩ := h
  obtain ⟨u1, u2, rfl, r1, r2⟩ := vals2 rs
  obtain ⟨a, o, rfl, ge, ho⟩ := dgetE_of hx hy c
  cases (show v = .ref a from rx)
  refine de_get2 hg (by omega) I ge r1 r2 fun w' s' I' rw' => ⟨_, H, I', rw', q _ ?_⟩
  rcases ho with ⟨rfl, h2⟩ | ⟨w2, d', rfl, h2, h3⟩
  · rw [h2]; exact hz
  · rw [h2]; exact h3
theorem DvA.two {g : Pw} {F : Addr → Prop} {H : Hp} {vs : List V} {d e : PyData} (h : DvA g F H vs [d, e]) : ∃ v u, vs = [v, u] ∧ Dv g F H v d ∧ Dv g F H u e := by
  cases h with
  | cons r t =>
    cases t with
    | cons r' t => cases t; exact ⟨_, _, rfl, r, r'⟩
theorem DvA.one {g : Pw} {F : Addr → Prop} {H : Hp} {vs : List V} {d : PyData} (h : DvA g F H vs [d]) : ∃ v, vs = [v] ∧ Dv g F H v d := by
  cases h with
  | cons r t => cases t; exact ⟨_, rfl, r⟩
theorem strs_of {g : Pw} {F : Addr → Prop} {H : Hp} : ∀ {vs : List V} {ds : List PyData} {ys : List Str}, DvA g F H vs ds → strsD ds = some ys → vs = ys.map V.str
  | _, _, ys, .nil, e => by cases (Option.some.inj (show some [] = some ys from e)); rfl
  | _, _, ys, .cons (d := d) (ds := ds) r t, e => by
    unfold strsD at e
    split at e
    · rename_i h; cases h
    · rename_i s r' h
      cases h
      obtain ⟨l, e1, rfl⟩ := Option.map_eq_some_iff.mp e
      rw [strs_of t e1]
      cases r
      rfl
    · cases e
def rMthM (g : Pw) (m : Mth) : V → List V → Hp → VK → Prop := fun x xs H Q => ∃ F d es r, WOk g F H x d ∧ DvA g F H xs es ∧ mthD m d es = some r ∧ ∀ v H', NewD g F H v r H' → Q v H'
def Mth.id : Mth → String
  | .get2 => "dict.get"
  | .join => "str.join"
def Mth.T : Mth → String
  | .get2 => "dict"
  | .join => "str"
def Mth.nm : Mth → Str
  | .get2 => "get"
  | .join => "join"
theorem mt_mth {g : Pw} (hg : g = ⟨X.prog, X.w⟩) (hu : X.A.units + 200 < cLine) (m : Mth) : MtR X m.id (rMthM g m) := by
  intro pins s σ H x xs v us Q I rx rs h
  obtain ⟨F, d, es, r, hx, he, h, q⟩ := h
  have jn : ∀ {z : Str} {a : Addr} {ys : List V} {ds : List PyData}, xs = [.ref a] → x = .str z → (SqL X.K H a ys ∨ SqT X.K H a ys) → DvA g F H ys ds → joinD z ds = some r → m = .join → wpAny (model X.prog X.w) X.A (call (.builtin m.id) (v :: us)) (EP X pins σ Q) X.xe s := fun {z a ys ds} e1 e2 e3 e4 e5 e6 => by
    subst e6
    unfold joinD at e5
    split at e5
    · rename_i ts ht
      split at e5
      · rename_i hb
        cases e5
        have e := strs_of e4 ht
        subst e
        have hb : (ts.map (·.length)).sum + ts.length * z.length ≤ 16777216 := of_decide_eq_true hb
        exact mt_join pins s σ H x xs v us Q I rx rs ⟨z, a, ts, e2, e1, e3, hb, by rw [TL.join_eq]; exact q _ _ (.str _)⟩
      · cases e5
    · cases e5
  unfold mthD at h
  split at h
  · split at h
    · rename_i c
      cases h
      obtain ⟨y, z, rfl, h1, h2⟩ := he.two
      exact mt_get2 hg hu pins s σ H x _ v us Q I rx rs ⟨F, _, _, y, z, _, rfl, hx, .inl h1, c, h2, fun v' n => q _ _ (.same n)⟩
    · cases h
  · obtain ⟨y, rfl, h1⟩ := he.one
    have ex := hx.str
    obtain ⟨a, ys, rfl, h3, h4⟩ := WOk.list (.inl h1)
    exact jn rfl ex (.inl (.inl h3)) h4 h rfl
  · obtain ⟨y, rfl, h1⟩ := he.one
    have ex := hx.str
    obtain ⟨a, ys, rfl, f, h3, h4⟩ := WOk.tuple (.inl h1)
    exact jn rfl ex (.inr h3.sq) h4 h rfl
  · cases h
theorem mthTy_of {m : Mth} {o : Option PyData} (h : mthTy m o = true) : (m = .get2 ∧ ∃ kvs, o = some (.dict kvs)) ∨ (m = .join ∧ ∃ s, o = some (.str s)) := by
  unfold mthTy at h
  split at h
  · exact .inl ⟨rfl, _, rfl⟩
  · exact .inr ⟨rfl, _, rfl⟩
  · cases h
theorem isLstC_of {x : RV} {mh : MH} (h : isLstC x mh = true) : ∃ n xs, x = .ref n ∧ mh[n]? = some (.lst xs) := by
  unfold isLstC at h
  split at h
  · split at h
    · rename_i e
      exact ⟨_, _, rfl, e⟩
    · cases h
  · cases h
theorem me_mth {m : Mth} {o : E} {es : Es} {x e : Expr} {xs : List Expr} {apos cpos : Pos} (hg : J.T.g = ⟨X.prog, X.w⟩) (hu : X.A.units + 200 < cLine) (ho : PE X x (TEm J (evE C o))) (ha : PA X (e :: xs) (TDm J (evEs C es))) (hb : baseX x = true) (hp : (e :: xs).all plainX = true) (hl : (e :: xs).length < 29) (hline : (apos.endLine == cpos.line) = true) :
    PE X (.Call (.Attribute x m.nm apos) (e :: xs) [] cpos) (TEm J (evE C (.mth m o es))) := by
  have pa : PlainAttrs m.T := by cases m; exact PySem.F.plainAttrs_dict; exact PySem.F.plainAttrs_str
  have sl : Slot m.T m.nm m.id := by cases m; exact PySem.F.slot_dict_get; exact PySem.F.slot_str_join
  have ty : typeOf (.builtin m.id) = pure (.type "method_descriptor") := by cases m; exact PySem.F.type_dict_get; exact PySem.F.type_str_join
  refine PE.weak (pe_bmG pa sl ty (mt_mth (g := J.T.g) hg hu m) ho ha hb hp hl hline) fun σ H Q ⟨w, env, mh, R, oo⟩ => ?_
  refine ⟨w, env, mh, R, (OG.bind (rel := RvOk J.T) oo).mono fun v H1 ⟨w1, rv, mh1, _, x1, R1, r1, o1⟩ => ?_⟩
  split at o1
  · rename_i hm
    refine ⟨?_, w1, env, mh1, R.ext x1 R1, (OG.bind (rel := relDs J.T.g) o1).mono fun vs H2 ⟨w2, ds, mh2, _, x2, R2, r2, o2⟩ => ?_⟩
    · rcases mthTy_of hm with ⟨rfl, kvs, ev⟩ | ⟨rfl, z, ev⟩
      · exact ty_dict hg (r1.view R1 ev)
      · have := (r1.view R1 ev).str
        subst this
        exact ty_str
    · split at o2
      · rename_i d hd
        unfold ofD at o2
        split at o2
        · rename_i r hr
          exact ⟨w2.F, d, ds, r, (x2.rv r1).view R2 hd, r2, hr, fun v' H' n => o2.newD R2 n⟩
        · exact o2.elim
      · exact o2.elim
  · exact o1.elim
theorem DvA.eraseI {g : Pw} {F : Addr → Prop} {H : Hp} {vs : List V} {ds : List PyData} (i : Nat) (h : DvA g F H vs ds) : DvA g F H (vs.eraseIdx i) (ds.eraseIdx i) := h.eraseIdx i
theorem me_pop {o : E} {es : Es} {x e : Expr} {apos cpos : Pos} (ho : PE X x (TEm J (evE C o))) (ha : PA X [e] (TDm J (evEs C es))) (hb : baseX x = true) (hp : [e].all plainX = true) (hline : (apos.endLine == cpos.line) = true) :
    PE X (.Call (.Attribute x "pop" apos) [e] [] cpos) (TEm J (evE C (.popA o es))) := by
  refine PE.weak (pe_bmG PySem.F.plainAttrs_list PySem.F.slot_list_pop PySem.F.type_list_pop mt_popAt ho ha hb hp (by simp) hline) fun σ H Q ⟨w, env, mh, R, oo⟩ => ?_
  refine ⟨w, env, mh, R, (OG.bind (rel := RvOk J.T) oo).mono fun v H1 ⟨w1, rv, mh1, _, x1, R1, r1, o1⟩ => ?_⟩
  split at o1
  · rename_i hm
    obtain ⟨n, xs, rfl, hn⟩ := isLstC_of hm
    obtain ⟨a, rfl, hc⟩ := r1
    obtain ⟨vs0, hH, _⟩ := R1.ok n _ a hn hc
    refine ⟨ty_list (.inl hH), w1, env, mh1, R.ext x1 R1, (OG.bind (rel := relDs J.T.g) o1).mono fun us H2 ⟨w2, ds, mh2, _, x2, R2, r2, o2⟩ => ?_⟩
    have hc2 := x2.cell hc
    cases hn2 : mh2[n]? with
    | none => simp only [popC, hn2] at o2; exact o2.elim
    | some cl =>
      cases cl with
      | lst ys =>
        match ds, r2, o2 with
        | [.int i], r2, o2 =>
          simp only [popC, hn2] at o2
          split at o2
          · rename_i k hk
            split at o2
            · rename_i d hd
              obtain ⟨vs, hH2, dv⟩ := R2.ok n _ a hn2 hc2
              have hF := R2.live n _ a hn2 hc2 rfl
              obtain ⟨y, rfl, h1⟩ := DvA.one r2
              cases h1
              obtain ⟨z, hz, dz⟩ := dv.get hd
              split at hk
              · rename_i hs
                have hs := of_decide_eq_true hs
                have hk' : L2.ixN ys.length i = some k := hk
                obtain ⟨e1, e2, e3, e4⟩ := ixN_seq hk'
                have hl := dv.length
                refine ⟨a, vs, i, k, z, rfl, rfl, hH2, by omega, by omega, by rw [hl]; exact e1, hz, ?_⟩
                have new : CellOk J.T w2 (upd H2 a (.lst (vs.eraseIdx k))) a (.lst (ys.eraseIdx k)) := ⟨_, upd_same, (dv.eraseIdx k).over hF⟩
                exact o2 w2 z _ (Ext.write (List.mem_of_getElem? hc2) hF) (R2.write hc2 hF new) (dz.over hF)
              · cases hk
            · exact o2.elim
          · exact o2.elim
        | [], r2, o2 => simp only [popC, hn2] at o2; exact o2.elim
        | _ :: _ :: _, r2, o2 => simp only [popC, hn2] at o2; exact o2.elim
        | [.none], r2, o2 => simp only [popC, hn2] at o2; exact o2.elim
        | [.bool _], r2, o2 => simp only [popC, hn2] at o2; exact o2.elim
        | [.str _], r2, o2 => simp only [popC, hn2] at o2; exact o2.elim
        | [.list _], r2, o2 => simp only [popC, hn2] at o2; exact o2.elim
        | [.tuple _], r2, o2 => simp only [popC, hn2] at o2; exact o2.elim
        | [.dict _], r2, o2 => simp only [popC, hn2] at o2; exact o2.elim
      | _ => simp only [popC, hn2] at o2; exact o2.elim
  · exact o1.elim

/-! ### comprehensions -/
theorem OG.noexcAt {T : Stat} {α β γ δ : Type} {rel : Wd → Hp → β → α → Prop} {rel' : Wd → Hp → δ → γ → Prop} {W : XK} {w w0 : Wd} {H H0 : Hp} {o : Out α} {k : α → MH → Out γ} {Q : δ → Hp → Prop} (h : OG T rel' W w0 H0 (noExc (o.bind k)) Q) :
    OG T rel (fun _ _ _ => False) w H o (fun b H1 => ∃ w1 a mh1, Ext w H w1 H1 ∧ RelH T w1 mh1 H1 ∧ rel w1 H1 b a ∧ OG T rel' W w0 H0 (noExc (k a mh1)) Q) := by
  cases o with
  | ok a mh => exact fun w' b H' x r q => ⟨w', a, mh, x, r, q, h⟩
  | exc x mh => exact h.elim
  | stuck => exact h.elim
theorem Out.bind_assoc {α β γ : Type} (o : Out α) (k : α → MH → Out β) (l : β → MH → Out γ) : (o.bind k).bind l = o.bind fun a mh => (k a mh).bind l := by cases o <;> rfl
theorem noExc_ite {α : Type} {p : Prop} [Decidable p] {a b : Out α} : noExc (if p then a else b) = if p then noExc a else noExc b := by split <;> rfl
theorem wipe_get {vs : List Nat} {σ : L2.St} {j : Nat} : (L2.wipe σ vs)[j]? = if j ∈ vs ∧ j < σ.length then some none else σ[j]? := by
  induction vs with
  | nil => simp [L2.wipe]
  | cons v vs ih =>
    show ((L2.wipe σ vs).set v none)[j]? = _
    by_cases e : v = j
    · subst e
      by_cases hl : v < σ.length
      · rw [List.getElem?_set_self (by rw [L2.wipe_length]; exact hl), if_pos ⟨List.mem_cons_self, hl⟩]
      · rw [if_neg fun z => hl z.2, List.getElem?_eq_none (by rw [List.length_set, L2.wipe_length]; omega), List.getElem?_eq_none (by omega)]
    · rw [List.getElem?_set_ne e, ih]
      by_cases hj : j ∈ vs ∧ j < σ.length
      · rw [if_pos hj, if_pos ⟨List.mem_cons_of_mem _ hj.1, hj.2⟩]
      · rw [if_neg hj, if_neg fun z => hj ⟨(List.mem_cons.mp z.1).resolve_left fun q => e q.symm, z.2⟩]
theorem wipe_near {vs us : List Nat} {σ σ' : L2.St} (n : Near us σ σ') (h : ∀ j ∈ us, j ∈ vs) : L2.wipe σ' vs = L2.wipe σ vs := by
  apply List.ext_getElem?
  intro j
  rw [wipe_get, wipe_get, n.1]
  by_cases hj : j ∈ vs ∧ j < σ.length
  · rw [if_pos hj, if_pos hj]
  · rw [if_neg hj, if_neg hj]
    by_cases hu : j ∈ us
    · have hl : ¬ j < σ.length := fun z => hj ⟨h j hu, z⟩
      rw [List.getElem?_eq_none (by rw [n.1]; omega), List.getElem?_eq_none (by omega)]
    · exact n.2 j hu
theorem wipe_wipe {vs : List Nat} {σ : L2.St} : L2.wipe (L2.wipe σ vs) vs = L2.wipe σ vs := by
  apply List.ext_getElem?
  intro j
  rw [wipe_get, L2.wipe_length, wipe_get]
  split
  · rfl
  · rfl
/-- nothing is let out -/
abbrev Jd.nox (J : Jd) : Jd := { J with W := fun _ _ _ _ => False }
def cmpTurn (C : CallF) (elt : E) (tg : Tg) (c : E) (own : List Nat) (env : MEnv) : PyData → MH → Out (Option PyData) := fun x mh => match bindT tg x (wipeM env own) with
  | some env' => ((evP C c).2 env' mh).bind fun t mh => (match t with
    | true => ((evP C elt).1 env' mh).bind fun r mh => (match r with
      | .dat d => .ok (some d) mh
      | _ => .stuck)
    | false => .ok none mh)
  | none => .stuck
theorem mf_comp {elt c : E} {tg : Tg} {it : Mn.It} {ownS : List (Str × Nat)} {xe xt xi : Expr} {ifs : List Expr} {scope : Scope} {pos : Pos} (hcalm : X.calm = true) (hN : X.N.Nodup)
    (hi : PI X xt xi (TIm J Ext tg (evIt C it))) (ok : BlkOk X.N X.env.scope scope ownS) (hs : plainX xi = true) (hsl : ∀ j ∈ tg.slots, j ∈ ownS.map (·.2))
    (hg : ∀ (s : Shared) (H : Hp) (Ca : Addr) (cl : List (Str × Addr)) (fp : List Addr), PG (X.blk s H scope (compEnvC scope cl Ca X.env) fp) xt (TGm J.nox tg))
    (ht : ∀ (s : Shared) (H : Hp) (Ca : Addr) (cl : List (Str × Addr)) (fp : List Addr), PTs (X.blk s H scope (compEnvC scope cl Ca X.env) fp) ifs (TTm J.nox (evT C c)))
    (he : ∀ (s : Shared) (H : Hp) (Ca : Addr) (cl : List (Str × Addr)) (fp : List Addr), PE (X.blk s H scope (compEnvC scope cl Ca X.env) fp) xe (TEm J.nox (evE C elt))) :
    (∀ σ H Q, TEf J (evE C (.comp elt tg it c (ownS.map (·.2)))) σ H Q → tLc (TIm J Ext tg (evIt C it)) (TGm J.nox tg) (TTm J.nox (evT C c)) (TEm J.nox (evE C elt)) (ownS.map (·.2)) σ H Q) := by
  intro σ H Q ⟨w, env, mh, R, o⟩
  generalize hown : ownS.map (·.2) = own at *
  refine ⟨w, env, mh, R, (OG.bind (rel := WalksR Ext tg J.T.g) o).mono fun I H1 ⟨w1, ds, mh1, _, x1, R1, wk, o1⟩ => ?_⟩
  intro D hD
  split at o1
  · rename_i hbig
    have o1 : OG J.T (relF J.T H) (fun c d H' => J.W c d σ H') w1 H1 (noExc ((compL (cmpTurn C elt tg c own env) ds mh1 []).bind fun ds mh => .ok (.dat (.list ds)) mh)) Q := o1
    have nF : ¬ w1.F D := fun z => by obtain ⟨o, e⟩ := R1.thF D z; rw [hD] at e; cases e
    have nC : D ∉ w1.cs := fun z => by obtain ⟨o, e⟩ := R1.thC D z; rw [hD] at e; cases e
    refine ⟨fun i m Hc => m = ds.length - i ∧ i ≤ ds.length ∧ ∃ wc mhc acc accD, Ext w1 H1 wc Hc ∧ RelH J.T wc mhc Hc ∧ Hc D = some (.lst acc) ∧ DvA J.T.g wc.F Hc acc accD ∧ acc.length ≤ i ∧ D ∉ wc.cs ∧ ¬ wc.F D ∧
      OG J.T (relF J.T H) (fun c d H' => J.W c d σ H') w1 H1 (noExc ((compL (cmpTurn C elt tg c own env) (ds.drop i) mhc accD).bind fun ds mh => .ok (.dat (.list ds)) mh)) Q,
      ⟨_, rfl, Nat.zero_le _, w1, mh1, [], [], Ext.over .refl hD, R1.over nC nF, upd_same, .nil, Nat.le_refl _, nC, nF, by simpa using o1⟩, ?_⟩
    intro i m Hc ⟨hm, hil, wc, mhc, acc, accD, xc, Rc, hDc, da, hal, hnc, hnf, oc⟩
    have wkc := wk wc Hc xc
    by_cases hlt : i < ds.length
    · refine .inr ⟨wkc.1 i hlt, fun Hn => ∃ wn mhn accn accDn, Ext w1 H1 wn Hn ∧ RelH J.T wn mhn Hn ∧ Hn D = some (.lst accn) ∧ DvA J.T.g wn.F Hn accn accDn ∧ accn.length ≤ i + 1 ∧ D ∉ wn.cs ∧ ¬ wn.F D ∧
        OG J.T (relF J.T H) (fun c d H' => J.W c d σ H') w1 H1 (noExc ((compL (cmpTurn C elt tg c own env) (ds.drop (i + 1)) mhn accDn).bind fun ds mh => .ok (.dat (.list ds)) mh)) Q,
        fun Hn hN' => ⟨ds.length - (i + 1), by omega, rfl, by omega, hN'⟩, ?_⟩
      intro x Hy hy
      obtain ⟨d, hd, bd, hH⟩ := wkc.2.2 i x Hy hy hlt
      have hdrop : ds.drop i = d :: ds.drop (i + 1) := by
        rw [List.drop_eq_getElem_cons hlt]
        rw [List.getElem?_eq_getElem hlt] at hd
        cases hd; rfl
      rw [hdrop] at oc
      have oc : OG J.T (relF J.T H) (fun c d H' => J.W c d σ H') w1 H1 (noExc ((((cmpTurn C elt tg c own env) d mhc).bind fun r mh' => match r with
        | some d => compL (cmpTurn C elt tg c own env) (ds.drop (i + 1)) mh' (accD ++ [d])
        | none => compL (cmpTurn C elt tg c own env) (ds.drop (i + 1)) mh' accD).bind fun ds mh => .ok (.dat (.list ds)) mh)) Q := oc
      rw [Out.bind_assoc] at oc
      have xy : Ext wc Hc wc Hy := by
        rcases hH with rfl | ⟨p, ob, hp, rfl⟩
        · exact .refl
        · exact Ext.lay hp
      have Ry : RelH J.T wc mhc Hy := by
        rcases hH with rfl | ⟨p, ob, hp, rfl⟩
        · exact Rc
        · exact Rc.lay hp
      have Rw := (R.ext (x1.trans (xc.trans xy)) Ry).wipe (vs := own)
      unfold cmpTurn at oc
      cases hb : bindT tg d (wipeM env own) with
      | none => rw [hb] at oc; exact oc.elim
      | some env' =>
        rw [hb] at oc
        have oc := oc
        rw [Out.bind_assoc] at oc
        refine ⟨wc, wipeM env own, d, env', mhc, Rw, bd, hb, fun σ2 R2 n2 => ⟨?_, ?_⟩⟩
        · rw [wipe_near n2 hsl, wipe_wipe]
        · refine ⟨wc, env', mhc, R2, (OG.noexcAt (rel := relB) (w := wc) (H := Hy) oc).mono fun b H3 ⟨w3, b', mh3, x3, R3, r3, o3⟩ => ?_⟩
          cases (show b = b' from r3)
          have tail : ∀ {w4 : Wd} {H4 : Hp}, Ext w3 H3 w4 H4 → Ext w1 H1 w4 H4 ∧ H4 D = some (.lst acc) ∧ DvA J.T.g w4.F H4 acc accD ∧ D ∉ w4.cs ∧ ¬ w4.F D := fun {w4 H4} x4 => by
            have xx := xy.trans (x3.trans x4)
            exact ⟨xc.trans xx, xx.there hDc hnc, xx.dvA da, xx.nc hDc hnc, xx.nF hDc hnc hnf⟩
          cases b with
          | true =>
            rw [if_pos rfl]
            have o3 : OG J.T (relF J.T H) (fun c d H' => J.W c d σ H') w1 H1 (noExc ((((evP C elt).1 env' mh3).bind fun r mh => (match r with
              | .dat d => .ok (some d) mh
              | _ => .stuck)).bind fun r mh' => (match r with
              | some d => compL (cmpTurn C elt tg c own env) (ds.drop (i + 1)) mh' (accD ++ [d])
              | none => compL (cmpTurn C elt tg c own env) (ds.drop (i + 1)) mh' accD).bind fun ds mh => .ok (.dat (.list ds)) mh)) Q := o3
            rw [Out.bind_assoc] at o3
            refine ⟨w3, env', mh3, R2.ext x3 R3, (OG.noexcAt (rel := RvOk J.T) (w := w3) (H := H3) o3).mono fun y H4 ⟨w4, rv, mh4, x4, R4, r4, o4⟩ => ?_⟩
            obtain ⟨t1, t2, t3, t4, t5⟩ := tail x4
            cases rv with
            | dat d' =>
              have hb24 : ds.length ≤ sizeLine := big_le hbig
              refine ⟨acc, t2, by omega, w4, mh4, acc ++ [y], accD ++ [d'], Ext.over t1 hD, R4.over t4 t5, upd_same, (t3.append (.cons r4 .nil)).over t5, by simp; omega, t4, t5, o4⟩
            | ref n => exact o4.elim
            | olst ds => exact o4.elim
            | odct ps => exact o4.elim
            | xcp c a => exact o4.elim
          | false =>
            rw [if_neg (by simp)]
            obtain ⟨t1, t2, t3, t4, t5⟩ := tail .refl
            exact ⟨w3, mh3, acc, accD, t1, R3, t2, t3, by omega, t4, t5, o3⟩
    · have hie : i = ds.length := by omega
      subst hie
      refine .inl ⟨wkc.2.1, ?_⟩
      rw [List.drop_length] at oc
      have hD0 := x1.old R1 D hD
      exact oc wc (.ref D) Hc xc Rc ⟨D, _, rfl, rfl, hD0, hnc, hnf, acc, hDc, da⟩
  · exact o1.elim
end
end Mn
end
section
set_option linter.all false
set_option autoImplicit false
set_option maxRecDepth 100000
/-! Mini: rules for what is walked. -/
namespace Mn
open PySem PySem.Spec PyProof.Rows L2

section
variable {X : Cx} {J : Jd} {C : CallF} {K : KeepR} {tg : Tg}
theorem dv_list {T : PySem.W.Frag} {g : Pw} {w : Wd} {H : Hp} {v : V} {xs : List PyData} (h : Dv g w.F H v (.list xs)) : ∃ a vs, v = .ref a ∧ ∀ w' H', FKeep w H w' H' → SqL T H' a vs ∧ DvA g w'.F H' vs xs := by
  cases h with
  | @lst a vs ds f r t =>
    refine ⟨a, vs, rfl, fun w' H' k => ⟨?_, t.mono k.1 fun b o fb eb => k.2 b o fb eb⟩⟩
    rcases r with r | ⟨o, r⟩
    · exact .inl (.inl (k.2 a _ f r))
    · exact .inl (.inr ⟨o, k.2 a _ f r⟩)
theorem dv_tup {T : PySem.W.Frag} {g : Pw} {w : Wd} {H : Hp} {v : V} {xs : List PyData} (h : Dv g w.F H v (.tuple xs)) : ∃ a vs, v = .ref a ∧ ∀ w' H', FKeep w H w' H' → SqT T H' a vs ∧ DvA g w'.F H' vs xs := by
  cases h with
  | @tup a vs ds f r t =>
    obtain ⟨o, r, _⟩ := r
    exact ⟨a, vs, rfl, fun w' H' k => ⟨.inl (.inr ⟨o, k.2 a _ f r⟩), t.mono k.1 fun b o fb eb => k.2 b o fb eb⟩⟩
theorem dv_seq {T : PySem.W.Frag} {g : Pw} {w : Wd} {H : Hp} {v : V} {d : PyData} {xs : List PyData} (h : Dv g w.F H v d) (e : seqD d = some xs) : ∃ k a vs, v = .ref a ∧ ∀ w' H', FKeep w H w' H' → SqB k T H' a vs ∧ DvA g w'.F H' vs xs := by
  cases d with
  | list ds => cases (Option.some.inj e); obtain ⟨a, vs, h1, h2⟩ := dv_list (T := T) h; exact ⟨true, a, vs, h1, h2⟩
  | tuple ds => cases (Option.some.inj e); obtain ⟨a, vs, h1, h2⟩ := dv_tup (T := T) h; exact ⟨false, a, vs, h1, h2⟩
  | _ => cases e
/-- data is walked -/
def walkV (own : Bool) (x : RV) (mh : MH) : Out (List PyData) := match x with
  | .dat d => (match itemsD d with
    | some xs => .ok xs mh
    | none => .stuck)
  | .olst xs => if own then .ok xs mh else .stuck
  | _ => .stuck
theorem mi_run {own : Bool} {x xt : Expr} {m : MEnv → MH → Out RV} {mi : MEnv → MH → Out (List PyData)} (ha : PE X x (TEm J m)) (hk : ∀ w H w' H', K w H w' H' → FKeep w H w' H') (ho : own = true → ∀ w H w' H', K w H w' H' → Ext w H w' H')
    (hm : ∀ env mh, mi env mh = (m env mh).bind (walkV own)) : PI X xt x (TIm J K tg mi) := by
  refine ⟨fun pins s σ H R I ⟨w, env, mh, Rl, o⟩ => ?_⟩
  rw [hm] at o
  cases he : m env mh with
  | stuck => rw [he] at o; exact o.elim
  | exc y mh1 =>
    refine (pi_list ha).run pins s σ H R I ⟨w, env, mh, Rl, ?_⟩
    rw [he] at o ⊢
    exact o
  | ok rv mh1 =>
    rw [he] at o
    cases rv with
    | dat d =>
      cases d with
      | list xs =>
        have o : OG J.T (WalksR K tg J.T.g) (fun c d H' => J.W c d σ H') w H (.ok xs mh1) R := o
        refine (pi_list ha).run pins s σ H R I ⟨w, env, mh, Rl, ?_⟩
        rw [he]
        intro w' v H' x' R' r'
        obtain ⟨a, vs, rfl, h⟩ := dv_list (T := X.K) r'
        exact ⟨a, rfl, ⟨vs, (h w' H' .refl).1⟩, o w' _ H' x' R' (walks_list fun w2 H2 q => h w2 H2 (hk _ _ _ _ q))⟩
      | tuple xs =>
        have o : OG J.T (WalksR K tg J.T.g) (fun c d H' => J.W c d σ H') w H (.ok xs mh1) R := o
        refine (pi_tup ha).run pins s σ H R I ⟨w, env, mh, Rl, ?_⟩
        rw [he]
        intro w' v H' x' R' r'
        obtain ⟨a, vs, rfl, h⟩ := dv_tup (T := X.K) r'
        exact ⟨a, rfl, ⟨vs, (h w' H' .refl).1⟩, o w' _ H' x' R' (walks_tup fun w2 H2 q => h w2 H2 (hk _ _ _ _ q))⟩
      | str z =>
        have o : OG J.T (WalksR K tg J.T.g) (fun c d H' => J.W c d σ H') w H (.ok (z.cps.toList.map fun c => .str ⟨#[c]⟩) mh1) R := o
        refine (pi_str ha).run pins s σ H R I ⟨w, env, mh, Rl, ?_⟩
        rw [he]
        intro w' v H' x' R' r'
        cases r'
        exact ⟨z, rfl, o w' _ H' x' R' walks_str⟩
      | _ => exact o.elim
    | olst xs =>
      have o : OG J.T (WalksR K tg J.T.g) (fun c d H' => J.W c d σ H') w H (if own = true then .ok xs mh1 else .stuck) R := o
      split at o
      · rename_i hw
        refine (pi_list ha).run pins s σ H R I ⟨w, env, mh, Rl, ?_⟩
        rw [he]
        intro w' v H' x' R' r'
        obtain ⟨a, vs, rfl, h1, h2, h3, h4⟩ := r'
        exact ⟨a, rfl, ⟨vs, .inl (.inl h1)⟩, o w' _ H' x' R' (walks_list fun w2 H2 q => ⟨.inl (.inl ((ho hw _ _ _ _ q).there h1 h3)), (ho hw _ _ _ _ q).dvA h2⟩)⟩
      · exact o.elim
    | _ => exact o.elim
theorem mi_of {x xt : Expr} {e : E} (ha : PE X x (TEm J (evE C e))) : PI X xt x (TIm J Ext tg (evIt C (.of e))) :=
  mi_run (own := true) ha (fun _ _ _ _ h => h.fk) (fun _ _ _ _ _ h => h) fun env mh => by
    show ((evP C e).1 env mh).bind _ = _
    congr 1
theorem mi_ofF {x xt : Expr} {e : E} (ha : PE X x (TEm J (evE C e))) : PI X xt x (TIm J FKeep tg (evItF C (.of e))) :=
  mi_run (own := false) ha (fun _ _ _ _ h => h) (fun h => by cases h) fun env mh => by
    show ((evP C e).1 env mh).bind _ = _
    congr 1
    funext x mh
    cases x <;> first | rfl | exact (if_neg (by simp)).symm
/-- range(n), range(i, j) -/
theorem mi_rng1 {x xt : Expr} {a : E} {p pos : Pos} (ha : PE X x (TEm J (evE C a))) (hg : Gl X "range") (hm : X.mg "range" = none) (hp : plainX x = true) : PI X xt (.Call (.Name "range" p) [x] [] pos) (TIm J K tg (evIt C (.rng1 a))) :=
  PI.weak (pi_range1 hg hm (pa_cons ha pa_nil (star_of hp)) (star_of hp)) fun σ H R ⟨w, env, mh, Rl, o⟩ => by
    refine ⟨w, env, mh, Rl, (OG.bind (rel := RvOk J.T) o).mono fun v H1 ⟨w1, rv, mh1, _, x1, R1, r1, o1⟩ => ?_⟩
    split at o1
    · split at o1
      · rename_i hn
        have hn := of_decide_eq_true hn
        cases r1
        exact ⟨_, rfl, by omega, by omega, o1 w1 _ H1 .refl R1 walks_rng⟩
      · exact o1.elim
    · exact o1.elim
theorem mi_rng2 {x y xt : Expr} {a b : E} {p pos : Pos} (ha : PE X x (TEm J (evE C a))) (hb : PE X y (TEm J (evE C b))) (hg : Gl X "range") (hm : X.mg "range" = none) (hp : [x, y].all plainX = true) : PI X xt (.Call (.Name "range" p) [x, y] [] pos) (TIm J K tg (evIt C (.rng2 a b))) := by
  have hp' := hp
  simp only [List.all_cons, Bool.and_eq_true] at hp'
  exact PI.weak (pi_range2 hg hm (pa_cons ha (pa_cons hb pa_nil (star_of hp'.2.1)) (star_of hp'.1)) (star_all hp) (star_all (es := [y]) (by simp [hp'.2.1]))) fun σ H R ⟨w, env, mh, Rl, o⟩ => by
    refine ⟨w, env, mh, Rl, (OG.bind (rel := RvOk J.T) o).mono fun v H1 ⟨w1, rv, mh1, _, x1, R1, r1, o1⟩ => ?_⟩
    refine ⟨w1, env, mh1, Rl.ext x1 R1, (OG.bind (rel := RvOk J.T) o1).mono fun u H2 ⟨w2, ru, mh2, _, x2, R2, r2, o2⟩ => ?_⟩
    split at o2
    · split at o2
      · rename_i hn
        have hn := of_decide_eq_true hn
        cases r1
        cases r2
        exact ⟨_, _, rfl, by omega, o2 w2 _ H2 .refl R2 walks_rng⟩
      · exact o2.elim
    · exact o2.elim
/-- zip, enumerate -/
theorem mi_zip2 {x y : Expr} {a b : E} {p pos tpos : Pos} {elts : List Expr} {kk : Nat} (hk : ∀ w H w' H', K w H w' H' → FKeep w H w' H') (ht : tg.seq = true) (ha : PE X x (TEm J (evE C a))) (hb : PE X y (TEm J (evE C b))) (hg : Gl X "zip") (hm : X.mg "zip" = none) (hp : [x, y].all plainX = true) :
    PI X (.Tuple elts kk tpos) (.Call (.Name "zip" p) [x, y] [] pos) (TIm J K tg (evIt C (.zip2 a b))) := by
  have hp' := hp
  simp only [List.all_cons, Bool.and_eq_true] at hp'
  exact PI.weak (pi_zipB hg hm (pa_cons ha (pa_cons hb pa_nil (star_of hp'.2.1)) (star_of hp'.1)) (star_of hp'.1) (star_any (es := [y]) (by simp [hp'.2.1]))) fun σ H R ⟨w, env, mh, Rl, o⟩ => by
    refine ⟨w, env, mh, Rl, (OG.bind (rel := RvOk J.T) o).mono fun v H1 ⟨w1, rv, mh1, _, x1, R1, r1, o1⟩ => ?_⟩
    refine ⟨w1, env, mh1, Rl.ext x1 R1, (OG.bind (rel := RvOk J.T) o1).mono fun u H2 ⟨w2, ru, mh2, _, x2, R2, r2, o2⟩ => ?_⟩
    split at o2
    · split at o2
      · rename_i xs ys e1 e2
        obtain ⟨k1, a1, vs1, rfl, h1⟩ := dv_seq (T := X.K) (x2.dv r1) e1
        obtain ⟨k2, a2, vs2, rfl, h2⟩ := dv_seq (T := X.K) r2 e2
        obtain ⟨s1, _⟩ := h1 w2 H2 .refl
        obtain ⟨s2, _⟩ := h2 w2 H2 .refl
        refine ⟨k1, k2, a1, a2, vs1, vs2, rfl, s1, s2, o2 w2 _ H2 .refl R2 (walks_zipB (vs := vs1) (us := vs2) ht fun w' H' q => ?_)⟩
        obtain ⟨z1, z2⟩ := h1 w' H' (hk _ _ _ _ q)
        obtain ⟨z3, z4⟩ := h2 w' H' (hk _ _ _ _ q)
        exact ⟨z1, z2, z3, z4⟩
      · exact o2.elim
    · exact o2.elim
theorem mi_zip3 {x y z : Expr} {a b c : E} {p pos tpos : Pos} {elts : List Expr} {kk : Nat} (hk : ∀ w H w' H', K w H w' H' → FKeep w H w' H') (ht : tg.seq = true) (ha : PE X x (TEm J (evE C a))) (hb : PE X y (TEm J (evE C b))) (hc : PE X z (TEm J (evE C c))) (hg : Gl X "zip") (hm : X.mg "zip" = none) (hp : [x, y, z].all plainX = true) :
    PI X (.Tuple elts kk tpos) (.Call (.Name "zip" p) [x, y, z] [] pos) (TIm J K tg (evIt C (.zip3 a b c))) := by
  have hp' := hp
  simp only [List.all_cons, Bool.and_eq_true] at hp'
  exact PI.weak (pi_zipC hg hm (pa_cons ha (pa_cons hb (pa_cons hc pa_nil (star_of hp'.2.2.1)) (star_of hp'.2.1)) (star_of hp'.1)) (star_of hp'.1) (star_any (es := [y, z]) (by simp [hp'.2.1, hp'.2.2.1]))) fun σ H R ⟨w, env, mh, Rl, o⟩ => by
    refine ⟨w, env, mh, Rl, (OG.bind (rel := RvOk J.T) o).mono fun v H1 ⟨w1, rv, mh1, _, x1, R1, r1, o1⟩ => ?_⟩
    refine ⟨w1, env, mh1, Rl.ext x1 R1, (OG.bind (rel := RvOk J.T) o1).mono fun u H2 ⟨w2, ru, mh2, _, x2, R2, r2, o2⟩ => ?_⟩
    refine ⟨w2, env, mh2, (Rl.ext x1 R1).ext x2 R2, (OG.bind (rel := RvOk J.T) o2).mono fun t H3 ⟨w3, rt, mh3, _, x3, R3, r3, o3⟩ => ?_⟩
    split at o3
    · split at o3
      · rename_i xs ys zs e1 e2 e3
        obtain ⟨k1, a1, vs1, rfl, h1⟩ := dv_seq (T := X.K) (x3.dv (x2.dv r1)) e1
        obtain ⟨k2, a2, vs2, rfl, h2⟩ := dv_seq (T := X.K) (x3.dv r2) e2
        obtain ⟨k3, a3, vs3, rfl, h3⟩ := dv_seq (T := X.K) r3 e3
        obtain ⟨s1, _⟩ := h1 w3 H3 .refl
        obtain ⟨s2, _⟩ := h2 w3 H3 .refl
        obtain ⟨s3, _⟩ := h3 w3 H3 .refl
        refine ⟨k1, k2, k3, a1, a2, a3, vs1, vs2, vs3, rfl, s1, s2, s3, o3 w3 _ H3 .refl R3 (walks_zipC (vs := vs1) (us := vs2) (ws := vs3) ht fun w' H' q => ?_)⟩
        obtain ⟨z1, z2⟩ := h1 w' H' (hk _ _ _ _ q)
        obtain ⟨z3, z4⟩ := h2 w' H' (hk _ _ _ _ q)
        obtain ⟨z5, z6⟩ := h3 w' H' (hk _ _ _ _ q)
        exact ⟨z1, z2, z3, z4, z5, z6⟩
      · exact o3.elim
    · exact o3.elim
theorem mi_enum {x : Expr} {a : E} {p pos tpos : Pos} {elts : List Expr} {kk : Nat} (hk : ∀ w H w' H', K w H w' H' → FKeep w H w' H') (ht : tg.seq = true) (ha : PE X x (TEm J (evE C a))) (hg : Gl X "enumerate") (hm : X.mg "enumerate" = none) (hp : [x].all plainX = true) :
    PI X (.Tuple elts kk tpos) (.Call (.Name "enumerate" p) [x] [] pos) (TIm J K tg (evIt C (.enum a))) := by
  have hp' := hp
  simp only [List.all_cons, Bool.and_eq_true] at hp'
  exact PI.weak (pi_enumB hg hm (pa_cons ha pa_nil (star_of hp'.1)) (star_all hp)) fun σ H R ⟨w, env, mh, Rl, o⟩ => by
    refine ⟨w, env, mh, Rl, (OG.bind (rel := RvOk J.T) o).mono fun v H1 ⟨w1, rv, mh1, _, x1, R1, r1, o1⟩ => ?_⟩
    split at o1
    · split at o1
      · rename_i xs e1
        obtain ⟨k1, a1, vs1, rfl, h1⟩ := dv_seq (T := X.K) r1 e1
        obtain ⟨s1, _⟩ := h1 w1 H1 .refl
        exact ⟨k1, a1, vs1, rfl, s1, o1 w1 _ H1 .refl R1 (walks_enum (vs := vs1) ht fun w' H' q => h1 w' H' (hk _ _ _ _ q))⟩
      · exact o1.elim
    · exact o1.elim
end
end Mn
end
section
set_option linter.all false
set_option autoImplicit false
set_option maxRecDepth 100000
/-! Mini: rules for statements. -/
namespace Mn
open PySem PySem.Spec PyProof.Rows L2

/-- what follows a statement -/
def SG (J : Jd) (w : Wd) (H : Hp) (o : SO) (D : Ends) : Prop := match o with
  | .next env mh => ∀ w' σ' H', FKeep w H w' H' → Rel J.T J.B w' env mh σ' H' → D.nx σ' H'
  | .brk env mh => ∀ w' σ' H', FKeep w H w' H' → Rel J.T J.B w' env mh σ' H' → D.bk σ' H'
  | .cont env mh => ∀ w' σ' H', FKeep w H w' H' → Rel J.T J.B w' env mh σ' H' → D.ct σ' H'
  | .ret rv mh => ∀ w' v H', Ext J.B.w J.B.H w' H' → RelH J.T w' mh H' → RvN J.T J.B.H w' H' v rv → D.rt v H'
  | .exc x env mh => ∀ w' σ' cls d H', FKeep w H w' H' → Rel J.T J.B w' env mh σ' H' → XOk J.T w'.F H' cls d x.c x.arg → J.W cls d σ' H'
  | .stuck => False
def TSm (J : Jd) (m : MEnv → MH → SO) : TS := fun D σ H => ∃ w env mh, Rel J.T J.B w env mh σ H ∧ SG J w H (m env mh) D
section
variable {J : Jd} {w w1 : Wd} {env : MEnv} {mh : MH} {σ : L2.St} {H H1 : Hp} {D : Ends}
theorem SG.later {o : SO} (k : FKeep w H w1 H1) (h : SG J w H o D) : SG J w1 H1 o D := by
  cases o with
  | next env mh => exact fun w' σ' H' x r => h w' σ' H' (k.trans x) r
  | brk env mh => exact fun w' σ' H' x r => h w' σ' H' (k.trans x) r
  | cont env mh => exact fun w' σ' H' x r => h w' σ' H' (k.trans x) r
  | ret rv mh => exact h
  | exc x env mh => exact fun w' σ' c d H' x r q => h w' σ' c d H' (k.trans x) r q
  | stuck => exact h
theorem SG.mono {o : SO} {D' : Ends} (h : SG J w H o D) (n : ∀ σ H, D.nx σ H → D'.nx σ H) (r : ∀ v H, D.rt v H → D'.rt v H) (b : ∀ σ H, D.bk σ H → D'.bk σ H) (c : ∀ σ H, D.ct σ H → D'.ct σ H) : SG J w H o D' := by
  cases o with
  | next env mh => exact fun w' σ' H' x q => n _ _ (h w' σ' H' x q)
  | brk env mh => exact fun w' σ' H' x q => b _ _ (h w' σ' H' x q)
  | cont env mh => exact fun w' σ' H' x q => c _ _ (h w' σ' H' x q)
  | ret rv mh => exact fun w' v H' x q z => r _ _ (h w' v H' x q z)
  | exc x env mh => exact h
  | stuck => exact h
theorem SG.next (h : SG J w H (.next env mh) D) {w' : Wd} {H' : Hp} (k : FKeep w H w' H') (R : Rel J.T J.B w' env mh σ H') : D.nx σ H' := h w' σ H' k R
/-- an expression ahead of a statement -/
theorem SG.of {α β : Type} {rel : Wd → Hp → β → α → Prop} {k : α → MH → SO} {o : Out α} (R : Rel J.T J.B w env mh σ H) (h : SG J w H (SO.of env k o) D) :
    OG J.T rel (fun c d H' => J.W c d σ H') w H o (fun b H1 => ∃ w1 a mh1, Ext w H w1 H1 ∧ RelH J.T w1 mh1 H1 ∧ rel w1 H1 b a ∧ SG J w1 H1 (k a mh1) D) := by
  cases o with
  | ok a mh1 => exact fun w' b H' x r q => ⟨w', a, mh1, x, r, q, SG.later x.fk h⟩
  | exc y mh1 => exact fun w' c d H' x r q => h w' σ c d H' x.fk (R.ext x r) q
  | stuck => exact h
theorem SG.then {o : SO} {k : MEnv → MH → SO} (h : SG J w H (o.then k) D) : SG J w H o { D with nx := TSm J k D } := by
  cases o with
  | next env mh => exact fun w' σ' H' x r => ⟨w', env, mh, r, SG.later x h⟩
  | brk env mh => exact h
  | cont env mh => exact h
  | ret rv mh => exact h
  | exc x env mh => exact h
  | stuck => exact h
/-- a turn of a loop -/
theorem SG.turn {o : SO} {k : MEnv → MH → SO} (h : SG J w H (o.turn k) D) :
    SG J w H o { D with nx := fun σ' H' => ∃ w' env mh, FKeep w H w' H' ∧ Rel J.T J.B w' env mh σ' H' ∧ SG J w' H' (k env mh) D, ct := fun σ' H' => ∃ w' env mh, FKeep w H w' H' ∧ Rel J.T J.B w' env mh σ' H' ∧ SG J w' H' (k env mh) D, bk := D.nx } := by
  cases o with
  | next env mh => exact fun w' σ' H' x r => ⟨w', env, mh, x, r, SG.later x h⟩
  | cont env mh => exact fun w' σ' H' x r => ⟨w', env, mh, x, r, SG.later x h⟩
  | brk env mh => exact h
  | ret rv mh => exact h
  | exc x env mh => exact h
  | stuck => exact h
end

section
variable {X : Cx} {J : Jd} {C : CallF}
theorem mss_nil : PSs X [] (TSm J (evSs C .nil)) := PSs.weak pss_nil fun D σ H ⟨w, env, mh, R, o⟩ => o.next .refl R
theorem mss_cons {s : S} {r : Ss} {x : Stmt} {xs : List Stmt} (h1 : PS X x (TSm J (evS C s))) (h2 : PSs X xs (TSm J (evSs C r))) : PSs X (x :: xs) (TSm J (evSs C (.cons s r))) :=
  PSs.weak (pss_cons h1 h2) fun D σ H ⟨w, env, mh, R, o⟩ => ⟨w, env, mh, R, SG.then (k := fun env mh => evSs C r env mh) o⟩
theorem mss_never {xs : List Stmt} {r : Ss} : PSs X xs (TSm J (evSs C (.cons .nv r))) := PSs.weak pss_never fun D σ H ⟨w, env, mh, R, o⟩ => o.elim
theorem ms_never {x : Stmt} : PS X x (TSm J (evS C .nv)) := PS.weak ps_never fun D σ H ⟨w, env, mh, R, o⟩ => o.elim
theorem ms_pass {pos : Pos} : PS X (.Pass pos) (TSm J (evS C .pass)) := PS.weak ps_pass fun D σ H ⟨w, env, mh, R, o⟩ => o.next .refl R
theorem ms_brk {pos : Pos} : PS X (.Break pos) (TSm J (evS C .brk)) := PS.weak ps_break fun D σ H ⟨w, env, mh, R, o⟩ => o w σ H .refl R
theorem ms_cont {pos : Pos} : PS X (.Continue pos) (TSm J (evS C .cont)) := PS.weak ps_continue fun D σ H ⟨w, env, mh, R, o⟩ => o w σ H .refl R
theorem ms_expr {e : E} {x : Expr} {pos : Pos} (he : PE X x (TEm J (evE C e))) (hs : swapsWith x none pos.line X.env = pure false) : PS X (.Expr x pos) (TSm J (evS C (.expr e))) :=
  PS.weak (ps_expr he hs) fun D σ H ⟨w, env, mh, R, o⟩ => ⟨w, env, mh, R, (SG.of (rel := RvOk J.T) R o).mono fun v H1 ⟨w1, a, mh1, x1, R1, r1, o1⟩ => o1.next .refl (R.ext x1 R1)⟩
theorem ms_retN {pos : Pos} : PS X (.Return none pos) (TSm J (evS C .retN)) := PS.weak ps_retN fun D σ H ⟨w, env, mh, R, o⟩ => o w .non H R.x R.h ⟨.non, fun h => by cases h⟩
theorem ms_if {c : E} {a b : Ss} {x : Expr} {xs ys : List Stmt} {pos : Pos} (hc : PT X x (TTm J (evT C c))) (ha : PSs X xs (TSm J (evSs C a))) (hb : PSs X ys (TSm J (evSs C b))) : PS X (.If x xs ys pos) (TSm J (evS C (.if_ c a b))) :=
  PS.weak (ps_if hc ha hb) fun D σ H ⟨w, env, mh, R, o⟩ => by
    refine ⟨w, env, mh, R, (SG.of (rel := relB) R o).mono fun v H1 ⟨w1, t, mh1, x1, R1, r1, o1⟩ => ?_⟩
    cases (show v = t from r1)
    cases v with
    | true => rw [if_pos rfl]; exact ⟨w1, env, mh1, R.ext x1 R1, o1⟩
    | false => rw [if_neg (by simp)]; exact ⟨w1, env, mh1, R.ext x1 R1, o1⟩

/-! ### assignments -/
/-- a value is evaluated, then stored -/
def AsgOk (X : Cx) (t x : Expr) (pos : Pos) (te : TE) (g : TG) : Prop := PS X (.Assign [t] x pos) (tAsg te g)
theorem tAsg_weak {t x : Expr} {pos : Pos} {te te' : TE} {g : TG} (h : AsgOk X t x pos te g) (k : ∀ σ H Q, te' σ H Q → te σ H Q) : AsgOk X t x pos te' g := PS.weak h fun D σ H q => k _ _ _ q
theorem Rel.fk {T : Stat} {B : Base} {w : Wd} {env : MEnv} {mh : MH} {σ : L2.St} {H : Hp} (_ : Rel T B w env mh σ H) : FKeep w H w H := .refl
theorem ms_asgN {e : E} {i : Nat} {t x : Expr} {pos : Pos} (h : AsgOk X t x pos (TEm J (evE C e)) (gName i)) : PS X (.Assign [t] x pos) (TSm J (evS C (.asg (.nm i) e))) :=
  PS.weak h fun D σ H ⟨w, env, mh, R, o⟩ => by
    refine ⟨w, env, mh, R, (SG.of (rel := RvOk J.T) R o).mono fun v H1 ⟨w1, rv, mh1, x1, R1, r1, o1⟩ => ?_⟩
    have R' := R.ext x1 R1
    cases rv with
    | dat d =>
      have o1 : SG J w1 H1 (match (if i < env.length then some (env.set i (some (.dat d))) else none) with
        | some env' => .next env' mh1
        | none => .stuck) D := o1
      split at o1
      · rename_i env' he
        split at he
        · cases he
          exact o1.next .refl (R'.setD r1 rfl)
        · cases he
      · exact o1.elim
    | ref n =>
      have o1 : SG J w1 H1 (if i < env.length then .next (env.set i (some (.ref n))) mh1 else .stuck) D := o1
      split at o1
      · exact o1.next .refl (R'.setD r1 rfl)
      · exact o1.elim
    | _ => exact o1.elim
theorem ms_asgT {e : E} {tg : Tg} {t x : Expr} {pos : Pos} (ht : tg.seq = true) (h : AsgOk X t x pos (TEm J (evE C e)) (TGm J tg)) : PS X (.Assign [t] x pos) (TSm J (evS C (.asg tg e))) :=
  PS.weak h fun D σ H ⟨w, env, mh, R, o⟩ => by
    refine ⟨w, env, mh, R, (SG.of (rel := RvOk J.T) R o).mono fun v H1 ⟨w1, rv, mh1, x1, R1, r1, o1⟩ => ?_⟩
    have R' := R.ext x1 R1
    cases rv with
    | dat d =>
      have o1 : SG J w1 H1 (match bindT tg d env with
        | some env' => .next env' mh1
        | none => .stuck) D := o1
      cases he : bindT tg d env with
      | none => rw [he] at o1; exact o1.elim
      | some env' =>
        rw [he] at o1
        exact ⟨w1, env, d, env', mh1, R', .of r1, he, fun σ' R2 _ => o1.next .refl R2⟩
    | _ => cases tg with
      | nm i => cases ht
      | _ => exact o1.elim
/-- a value of its own gets a name -/
theorem FreshAt.own {T : Stat} {w : Wd} {H : Hp} {a : Addr} {d : PyData} {e : E} {r : RV} (h : FreshAt T.g w H a d) (hr : freshV e (.dat d) = some r) : RvOk T w H (.ref a) r ∧ r.own = true := by
  unfold freshV at hr
  cases d with
  | list ds =>
    have hr : (if isFresh e then some (RV.olst ds) else none) = some r := hr
    split at hr
    · cases hr
      obtain ⟨h1, h2, xs, h3, h4⟩ := h
      exact ⟨⟨a, xs, rfl, h3, h4, h1, h2⟩, rfl⟩
    · cases hr
  | dict ps =>
    have hr : (if isFresh e then some (RV.odct ps) else none) = some r := hr
    split at hr
    · cases hr
      obtain ⟨h1, h2, h3⟩ := h
      exact ⟨⟨a, rfl, h3, h1, h2⟩, rfl⟩
    · cases hr
  | _ => cases hr
theorem own_ref {T : Stat} {w : Wd} {H : Hp} {v : V} {r : RV} (h : RvOk T w H v r) (ho : r.own = true) : ∃ a o, v = .ref a ∧ H a = some o ∧ a ∉ w.cs ∧ ¬ w.F a := by
  cases r with
  | olst ds => obtain ⟨a, xs, e, h1, _, h3, h4⟩ := h; exact ⟨a, _, e, h1, h3, h4⟩
  | odct ps =>
    obtain ⟨a, e, h1, h3, h4⟩ := h
    rcases h1 with ⟨kvs, h1, _⟩ | ⟨kvs, h1, _⟩
    · exact ⟨a, _, e, h1, h3, h4⟩
    · exact ⟨a, _, e, h1, h3, h4⟩
  | _ => cases ho
/-- the results that a name may own: made by the expression e, or moved out of a call -/
theorem freshV_of {T : Stat} {H₀ : Hp} {w : Wd} {H : Hp} {v : V} {rv r : RV} {e : E} (h : relF T H₀ w H v rv ∨ (isFresh e = false ∧ RvN T H₀ w H v rv)) (hr : freshV e rv = some r) : ∃ a, v = .ref a ∧ H₀ a = none ∧ RvOk T w H v r ∧ r.own = true := by
  rcases h with ⟨a, d, rfl, rfl, hn, hf⟩ | ⟨hf, h, hn⟩
  · obtain ⟨h1, h2⟩ := hf.own hr
    exact ⟨a, rfl, hn, h1, h2⟩
  · unfold freshV at hr
    cases rv with
    | dat d => cases d <;> first | (rw [hf] at hr; cases hr) | cases hr
    | olst xs =>
      have hr : (if isCall e then some (RV.olst xs) else none) = some r := hr
      split at hr
      · cases hr
        obtain ⟨a, o, rfl, _⟩ := own_ref h rfl
        exact ⟨a, rfl, hn rfl a rfl, h, rfl⟩
      · cases hr
    | odct xs =>
      have hr : (if isCall e then some (RV.odct xs) else none) = some r := hr
      split at hr
      · cases hr
        obtain ⟨a, o, rfl, _⟩ := own_ref h rfl
        exact ⟨a, rfl, hn rfl a rfl, h, rfl⟩
      · cases hr
    | _ => cases hr
/-- an expression whose value may be owned -/
def TEo (J : Jd) (C : CallF) (e : E) : TE := if isFresh e then TEf J (evE C e) else TEc J (evE C e)
theorem TEo.run {e : E} {σ : L2.St} {H : Hp} {Q : VK} {w : Wd} {env : MEnv} {mh : MH} (R : Rel J.T J.B w env mh σ H) (o : OG J.T (fun w' H' v rv => relF J.T H w' H' v rv ∨ (isFresh e = false ∧ RvN J.T H w' H' v rv)) (fun c d H' => J.W c d σ H') w H (evE C e env mh) Q) : TEo J C e σ H Q := by
  unfold TEo
  split
  · exact ⟨w, env, mh, R, o.rel fun _ _ _ _ _ q => .inl q⟩
  · rename_i h
    exact ⟨w, env, mh, R, o.rel fun _ _ _ _ _ q => .inr ⟨by simpa using h, q⟩⟩
theorem Rel.own_new {T : Stat} {B : Base} {w : Wd} {env : MEnv} {mh : MH} {σ : L2.St} {H : Hp} {a : Addr} (R : Rel T B w env mh σ H) (hn : H a = none) : B.H a = none ∧ ∀ (j : Nat) (rv' : RV), env[j]? = some (some rv') → rv'.own = true → σ[j]? = some (some (V.ref a)) → False := by
  refine ⟨R.x.old R.h a hn, fun j rv' h1 h2 h3 => ?_⟩
  obtain ⟨v, e, r⟩ := R.e.ok j rv' h1
  rw [h3] at e; cases e
  obtain ⟨b, o, e, h4, _⟩ := own_ref r h2
  cases e
  rw [hn] at h4; cases h4
theorem ms_asgO {e : E} {i : Nat} {t x : Expr} {pos : Pos} (h : AsgOk X t x pos (TEo J C e) (gName i)) : PS X (.Assign [t] x pos) (TSm J (evS C (.asgO i e))) :=
  PS.weak h fun D σ H ⟨w, env, mh, R, o⟩ => TEo.run R ((SG.of R o).mono fun v H1 ⟨w1, rv, mh1, x1, R1, r1, o1⟩ => by
    have R' := R.ext x1 R1
    split at o1
    · rename_i r hr
      obtain ⟨a, rfl, hn, h1, h2⟩ := freshV_of r1 hr
      obtain ⟨n1, n2⟩ := R.own_new hn
      unfold setN at o1
      split at o1
      · exact o1.next .refl (R'.setG h1 fun _ b e => by cases e; exact ⟨n1, fun j rv' _ => n2 j rv'⟩)
      · exact o1.elim
    · exact o1.elim)
theorem Ext.addC {w w' : Wd} {H H' : Hp} {a : Addr} (x : Ext w H w' H') (hn : H a = none) : Ext w H ⟨w'.F, w'.cs ++ [a]⟩ H' where
  F := x.F
  F' := x.F'
  cs := let ⟨t, e⟩ := x.cs; ⟨t ++ [a], by rw [e, List.append_assoc]⟩
  cs' := fun b h => by
    rcases List.mem_append.mp h with h | h
    · exact x.cs' b h
    · rw [List.mem_singleton.mp h]; exact .inr hn
  H := x.H
theorem FsOk.addC {T : Stat} {w : Wd} {H : Hp} {a : Addr} : ∀ {fs : List (Str × V)} {gs : List (Nat × RV)}, FsOk T w H fs gs → FsOk T ⟨w.F, w.cs ++ [a]⟩ H fs gs
  | _, _, .nil => .nil
  | _, _, .dat r t => .dat r t.addC
  | _, _, .ref r t => .ref (by rw [List.getElem?_append_left (List.getElem?_eq_some_iff.mp r).1]; exact r) t.addC
theorem CellOk.addC {T : Stat} {w : Wd} {H : Hp} {a b : Addr} {c : Cell} (h : CellOk T w H b c) : CellOk T ⟨w.F, w.cs ++ [a]⟩ H b c := by
  cases c with
  | ins c fs => obtain ⟨dx, hfs, h1, h2, h3⟩ := h; exact ⟨dx, hfs, h1, h2.addC, h3⟩
  | _ => exact h
theorem RelH.addC {T : Stat} {w : Wd} {mh : MH} {H : Hp} {a : Addr} {c : Cell} {o : HO} (R : RelH T w mh H) (hc : a ∉ w.cs) (hF : ¬ w.F a) (ha : H a = some o) (new : CellOk T w H a c) : RelH T ⟨w.F, w.cs ++ [a]⟩ (mh ++ [c]) H where
  len := by rw [List.length_append, List.length_append, R.len]; rfl
  nd := List.nodup_append.mpr ⟨R.nd, by simp, fun x hx y hy => by rw [List.mem_singleton.mp hy]; exact fun e => hc (e ▸ hx)⟩
  thF := R.thF
  thC := fun b h => by
    rcases List.mem_append.mp h with h | h
    · exact R.thC b h
    · rw [List.mem_singleton.mp h]; exact ⟨o, ha⟩
  ok := fun n c' b h1 h2 => by
    by_cases hn : n < mh.length
    · rw [List.getElem?_append_left hn] at h1
      rw [List.getElem?_append_left (by rw [← R.len]; exact hn)] at h2
      exact (R.ok n c' b h1 h2).addC
    · rw [List.getElem?_append_right (by omega)] at h1
      rw [List.getElem?_append_right (by rw [← R.len]; omega), ← R.len] at h2
      cases hk : n - mh.length with
      | zero =>
        rw [hk] at h1 h2
        cases h1; cases h2
        exact new.addC
      | succ k => rw [hk] at h1; simp at h1
  live := fun n c' b h1 h2 h3 => by
    by_cases hn : n < mh.length
    · rw [List.getElem?_append_left hn] at h1
      rw [List.getElem?_append_left (by rw [← R.len]; exact hn)] at h2
      exact R.live n c' b h1 h2 h3
    · rw [List.getElem?_append_right (by omega)] at h1
      rw [List.getElem?_append_right (by rw [← R.len]; omega), ← R.len] at h2
      cases hk : n - mh.length with
      | zero => rw [hk] at h2; cases h2; exact hF
      | succ k => rw [hk] at h1; simp at h1
theorem own_cell {T : Stat} {w : Wd} {H : Hp} {a : Addr} {r : RV} (h : RvOk T w H (.ref a) r) (ho : r.own = true) : CellOk T w H a (toCell r) := by
  cases r with
  | olst ds => obtain ⟨b, xs, e, h1, h2, _⟩ := h; cases e; exact ⟨xs, h1, h2⟩
  | odct ps => obtain ⟨b, e, h1, _⟩ := h; cases e; exact h1
  | _ => cases ho
theorem ms_asgH {e : E} {i : Nat} {t x : Expr} {pos : Pos} (h : AsgOk X t x pos (TEo J C e) (gName i)) : PS X (.Assign [t] x pos) (TSm J (evS C (.asgH i e))) :=
  PS.weak h fun D σ H ⟨w, env, mh, R, o⟩ => TEo.run R ((SG.of R o).mono fun v H1 ⟨w1, rv, mh1, x1, R1, r1, o1⟩ => by
    split at o1
    · rename_i r hr
      obtain ⟨a, rfl, hn, h1, h2⟩ := freshV_of r1 hr
      obtain ⟨b, ob, e, h3, h4, h5⟩ := own_ref h1 h2
      cases e
      have R2 := R1.addC h4 h5 h3 (own_cell h1 h2)
      have R' := R.ext (x1.addC hn) R2
      unfold setN at o1
      split at o1
      · refine o1.next (w' := ⟨w1.F, w1.cs ++ [a]⟩) ⟨fun _ h => h, fun _ _ _ h => h⟩ (R'.setD (v := .ref a) (rv := .ref mh1.length) ⟨a, rfl, ?_⟩ rfl)
        show (w1.cs ++ [a])[mh1.length]? = some a
        rw [List.getElem?_append_right (by rw [R1.len]; exact Nat.le_refl _), R1.len, Nat.sub_self]
        rfl
      · exact o1.elim
    · exact o1.elim)
end
end Mn
end
section
set_option linter.all false
set_option autoImplicit false
set_option maxRecDepth 100000
/-! Mini: rules for statements: writes, loops, ends. -/
namespace Mn
open PySem PySem.Spec PyProof.Rows L2

section
variable {T : Stat} {B : Base} {w : Wd} {env : MEnv} {mh : MH} {σ : L2.St} {H : Hp}
theorem RvOk.over {v : V} {rv : RV} {a : Addr} {o : HO} (h : RvOk T w H v rv) (hF : ¬ w.F a) (hn : rv.own = true → v ≠ .ref a) : RvOk T w (upd H a o) v rv := by
  cases rv with
  | dat d => exact Dv.over h hF
  | ref n => exact h
  | olst ds =>
    obtain ⟨b, xs, rfl, h1, h2, h3, h4⟩ := h
    exact ⟨b, xs, rfl, by rw [upd_ne fun e => hn rfl (by rw [e])]; exact h1, h2.over hF, h3, h4⟩
  | odct ps =>
    obtain ⟨b, rfl, h1, h3, h4⟩ := h
    have hb : b ≠ a := fun e => hn rfl (by rw [e])
    refine ⟨b, rfl, ?_, h3, h4⟩
    rcases h1 with ⟨kvs, h1, h2⟩ | ⟨kvs, h1, h2⟩
    · exact .inl ⟨kvs, by rw [upd_ne hb]; exact h1, h2.over hF⟩
    · exact .inr ⟨kvs, by rw [upd_ne hb]; exact h1, h2.over hF⟩
  | xcp c arg =>
    obtain ⟨b, cls, d, rfl, h1, h2, h3⟩ := h
    refine ⟨b, cls, d, rfl, h1, h2, ?_⟩
    cases arg with
    | none => exact h3
    | some x =>
      obtain ⟨p, u, e, f, hp, r⟩ := h3
      exact ⟨p, u, e, f, by rw [upd_ne (ne_F f hF)]; exact hp, r.over hF⟩
/-- the list or dict that a name owns is written -/
theorem Rel.over {i : Nat} {rv rv' : RV} {a : Addr} {o : HO} (R : Rel T B w env mh σ H) (h : env[i]? = some (some rv)) (ho : rv.own = true) (hs : σ[i]? = some (some (V.ref a))) (hF : ¬ w.F a) (hC : a ∉ w.cs) (new : RvOk T w (upd H a o) (.ref a) rv') (ho' : rv'.own = true) :
    Rel T B w (env.set i (some rv')) mh σ (upd H a o) where
  h := R.h.over hC hF
  x := R.x.over (R.own i rv a h ho hs)
  e := {
    len := by rw [List.length_set]; exact R.e.len
    ok := fun j r hj => by
      rcases set_get hj with ⟨rfl, e⟩ | ⟨hne, hj'⟩
      · cases e; exact ⟨_, hs, new⟩
      · obtain ⟨v, e, q⟩ := R.e.ok j r hj'
        refine ⟨v, e, q.over hF fun q1 q2 => ?_⟩
        subst q2
        exact R.e.own j i r rv a hne hj' h q1 ho e hs
    own := fun j k r1 r2 b hjk h1 h2 o1 o2 s1 s2 => by
      rcases set_get h1 with ⟨e1, e1'⟩ | ⟨n1, h1'⟩
      · subst e1
        rcases set_get h2 with ⟨e2, e2'⟩ | ⟨n2, h2'⟩
        · exact hjk e2.symm
        · exact R.e.own j k rv r2 b hjk h h2' ho o2 s1 s2
      · rcases set_get h2 with ⟨e2, e2'⟩ | ⟨n2, h2'⟩
        · subst e2
          exact R.e.own j k r1 rv b hjk h1' h o1 ho s1 s2
        · exact R.e.own j k r1 r2 b hjk h1' h2' o1 o2 s1 s2 }
  own := fun j r b hj o1 s1 => by
    rcases set_get hj with ⟨e1, _⟩ | ⟨_, hj'⟩
    · subst e1; exact R.own j rv b h ho s1
    · exact R.own j r b hj' o1 s1
/-- a cell is written -/
theorem Rel.write {n : Nat} {a : Addr} {o : HO} {c : Cell} (R : Rel T B w env mh σ H) (hc : w.cs[n]? = some a) (hF : ¬ w.F a) (new : CellOk T w (upd H a o) a c) : Rel T B w env (mh.set n c) σ (upd H a o) where
  h := R.h.write hc hF new
  x := R.x.trans (Ext.write (List.mem_of_getElem? hc) hF)
  e := {
    len := R.e.len
    ok := fun j r hj => by
      obtain ⟨v, e, q⟩ := R.e.ok j r hj
      refine ⟨v, e, q.over hF fun q1 q2 => ?_⟩
      obtain ⟨b, ob, e2, _, h3, _⟩ := own_ref q q1
      rw [q2] at e2; cases e2
      exact h3 (List.mem_of_getElem? hc)
    own := R.e.own }
  own := R.own
theorem over_fk {a : Addr} {o : HO} (hF : ¬ w.F a) : FKeep w H w (upd H a o) := ⟨fun _ h => h, fun b u f e => by rw [upd_ne (ne_F f hF)]; exact e⟩
/-- the address of a list or dict that may be written -/
structure At (T : Stat) (B : Base) (w : Wd) (env : MEnv) (mh : MH) (σ : L2.St) (H : Hp) (i : Nat) (a : Addr) (c : PyData) (f : PyData → Option PyData) (D : Ends) (J : Jd) : Prop where
  wr : ∀ (o : HO) (c' : PyData), f c = some c' → (match c' with
      | .list ys => ∃ xs, o = .lst xs ∧ DvA T.g w.F H xs ys
      | .dict ps => ∃ kvs, o = .dK kvs ∧ DvK T.g w.F H kvs ps
      | _ => False) → D.nx σ (upd H a o)
theorem upR_at {J : Jd} {D : Ends} {i : Nat} {f : PyData → Option PyData} (R : Rel J.T J.B w env mh σ H) (o : SG J w H (upR i f env mh) D) (hl : ∀ c c', f c = some c' → (∃ xs ys, c = .list xs ∧ c' = .list ys) ∨ ∃ xs ys, c = .dict xs ∧ c' = .dict ys) :
    ∃ a c c', σ[i]? = some (some (V.ref a)) ∧ f c = some c' ∧ (match c with
      | .list ds => ∃ xs, H a = some (.lst xs) ∧ DvA J.T.g w.F H xs ds
      | .dict ps => (∃ kvs, H a = some (.dK kvs) ∧ DvK J.T.g w.F H kvs ps) ∨ ∃ kvs, H a = some (TD J.T.g a kvs) ∧ DvT J.T.g w.F H kvs ps
      | _ => False) ∧ ¬ w.F a ∧ ∀ (ob : HO), (match c' with
      | .list ys => ∃ xs, ob = .lst xs ∧ DvA J.T.g w.F H xs ys
      | .dict ps => ∃ kvs, ob = .dK kvs ∧ DvK J.T.g w.F H kvs ps
      | _ => False) → D.nx σ (upd H a ob) := by
  unfold upR at o
  split at o
  · rename_i xs he
    obtain ⟨v, hs, a, vs, rfl, h1, h2, h3, h4⟩ := R.e.ok i _ he
    split at o
    · rename_i ys hf
      refine ⟨a, _, _, hs, hf, ⟨vs, h1, h2⟩, h4, fun ob ⟨us, e, q⟩ => ?_⟩
      subst e
      exact o.next (over_fk h4) (R.over he rfl hs h4 h3 (rv' := .olst ys) ⟨a, us, rfl, upd_same, q.over h4, h3, h4⟩ rfl)
    · exact o.elim
  · rename_i ps he
    obtain ⟨v, hs, a, rfl, h1, h3, h4⟩ := R.e.ok i _ he
    split at o
    · rename_i qs hf
      refine ⟨a, _, _, hs, hf, h1, h4, fun ob ⟨us, e, q⟩ => ?_⟩
      subst e
      exact o.next (over_fk h4) (R.over he rfl hs h4 h3 (rv' := .odct qs) ⟨a, rfl, .inl ⟨us, upd_same, q.over h4⟩, h3, h4⟩ rfl)
    · exact o.elim
  · rename_i n he
    obtain ⟨v, hs, a, rfl, hc⟩ := R.e.ok i _ he
    split at o
    · rename_i xs hn
      obtain ⟨vs, h1, h2⟩ := R.h.ok n _ a hn hc
      have hF := R.h.live n _ a hn hc rfl
      split at o
      · rename_i ys hf
        refine ⟨a, _, _, hs, hf, ⟨vs, h1, h2⟩, hF, fun ob ⟨us, e, q⟩ => ?_⟩
        subst e
        exact o.next (over_fk hF) (R.write hc hF ⟨us, upd_same, q.over hF⟩)
      · exact o.elim
    · rename_i ps hn
      have h1 := R.h.ok n _ a hn hc
      have hF := R.h.live n _ a hn hc rfl
      split at o
      · rename_i qs hf
        refine ⟨a, _, _, hs, hf, h1, hF, fun ob ⟨us, e, q⟩ => ?_⟩
        subst e
        exact o.next (over_fk hF) (R.write hc hF (.inl ⟨us, upd_same, q.over hF⟩))
      · exact o.elim
    · exact o.elim
  · exact o.elim
end

section
variable {X : Cx} {J : Jd} {C : CallF}
theorem ms_app {i : Nat} {e : E} {x : Str} {v : Expr} {p apos cpos pos : Pos} (hN : X.N[i]? = some x) (hv : Vis X.env.scope x) (hd : (x == ("__debug__" : Str)) = false) (hcd : (x == ("__classdict__" : Str)) = false)
    (he : PE X v (TEm J (evE C e))) (hp : plainX v = true) (hline : (apos.endLine == cpos.line) = true) : PS X (.Expr (.Call (.Attribute (.Name x p) "append" apos) [v] [] cpos) pos) (TSm J (evS C (.app i e))) := by
  refine PS.weak (ps_expr (pe_bmG PySem.F.plainAttrs_list PySem.F.slot_list_append PySem.F.type_list_append mt_append (pe_var hN hv hd hcd) (pa_cons he pa_nil (star_of hp)) rfl (by simp [hp]) (by simp) hline) rfl) fun D σ H ⟨w, env, mh, R, o⟩ => ?_
  have o : SG J w H (if lstAt env mh i then SO.of env (fun r mh => match r with
      | .dat d => upR i (appD d) env mh
      | _ => .stuck) (evE C e env mh) else .stuck) D := o
  split at o
  · rename_i hl
    have hat : ∃ a xs, σ[i]? = some (some (V.ref a)) ∧ H a = some (.lst xs) := by
      unfold lstAt at hl
      split at hl
      · rename_i ds he
        obtain ⟨v, hs, a, vs, rfl, h1, _⟩ := R.e.ok i _ he
        exact ⟨a, vs, hs, h1⟩
      · rename_i r hr he
        obtain ⟨n, xs, rfl, hn⟩ := isLstC_of hl
        obtain ⟨v, hs, a, rfl, hc⟩ := R.e.ok i _ he
        obtain ⟨vs, h1, _⟩ := R.h.ok n _ a hn hc
        exact ⟨a, vs, hs, h1⟩
      · cases hl
    obtain ⟨a, xs, hs, hH⟩ := hat
    refine ⟨.ref a, hs, ty_list (.inl hH), w, env, mh, R, (SG.of (rel := RvOk J.T) R o).mono fun v1 H1 ⟨w1, rv, mh1, x1, R1, r1, o1⟩ => ?_⟩
    cases rv with
    | dat d =>
      obtain ⟨a', c, c', hs', hf, h1, hF, hw⟩ := upR_at (R.ext x1 R1) o1 (fun c c' h => by
        unfold appD at h
        split at h
        · split at h
          · cases h; exact .inl ⟨_, _, rfl, rfl⟩
          · cases h
        · cases h)
      rw [hs] at hs'; cases hs'
      unfold appD at hf
      split at hf
      · rename_i ds
        split at hf
        · rename_i hb
          cases hf
          obtain ⟨vs, h2, h3⟩ := h1
          have hb := big_le hb
          have hl := h3.length
          exact ⟨a, vs, v1, rfl, rfl, h2, by omega, hw _ ⟨_, rfl, h3.append (.cons r1 .nil)⟩⟩
        · cases hf
      · cases hf
    | _ => exact o1.elim
  · exact o.elim

/-! ### x[k] = v -/
def rPutM (g : Pw) : TSet := fun o i v H Q => ∃ F a c k d c', o = .ref a ∧ (match c with
      | .list ds => ∃ xs, H a = some (.lst xs) ∧ DvA g F H xs ds
      | .dict ps => (∃ kvs, H a = some (.dK kvs) ∧ DvK g F H kvs ps) ∨ ∃ kvs, H a = some (TD g a kvs) ∧ DvT g F H kvs ps
      | _ => False) ∧ Dv g F H i k ∧ Dv g F H v d ∧ putC c k d = some c' ∧ ∀ (ob : HO), (match c' with
      | .list ys => ∃ xs, ob = .lst xs ∧ DvA g F H xs ys
      | .dict ps => ∃ kvs, ob = .dK kvs ∧ DvK g F H kvs ps
      | _ => False) → Q (upd H a ob)
theorem set_M {g : Pw} (hg : g = ⟨X.prog, X.w⟩) (hu : X.A.units + 200 < cLine) : PSet X (rPutM g) := by
  intro pins s σ H o i v ov iv u Q I ro ri rv h
  obtain ⟨F, a, c, k, d, c', rfl, hc, hi, hv, hp, hw⟩ := h
  cases c with
  | list ds =>
    obtain ⟨xs, h1, h2⟩ := hc
    cases k with
    | int z =>
      obtain ⟨j, hj, rfl⟩ := Option.map_eq_some_iff.mp (show (ixD ds.length z).map (fun j => PyData.list (ds.set j d)) = some c' from hp)
      cases hi
      exact set_list pins s σ H _ _ v ov iv u Q I ro ri rv ⟨a, xs, z, j, rfl, rfl, h1, by rw [h2.length]; exact hj, hw _ ⟨_, rfl, h2.set hv j⟩⟩
    | _ => cases hp
  | dict ps =>
    have hp : (if isKey1 k && ps.all (fun p => isKey1 p.1) && big (ps.length + 1) then some (PyData.dict (dput ps k d)) else none) = some c' := by
      revert hp
      cases k <;> exact fun z => z
    split at hp
    · rename_i hb
      cases hp
      rw [Bool.and_eq_true, Bool.and_eq_true] at hb
      obtain ⟨⟨hk, hall⟩, hb⟩ := hb
      have hb := big_le hb
      obtain ⟨key, rfl⟩ := isKey1_of hk
      have ei := keyV (.inl hi)
      subst ei
      cases (show ov = Value.ref a from ro)
      have core : ∀ {H' : Hp} {kvs : List (Key × V)}, Inv X pins σ H' s → H' a = some (.dK kvs) → DvK g F H kvs ps → (∀ o, upd H' a o = upd H a o) → wpAny (model X.prog X.w) X.A (setItem (.ref a) iv u) (fun _ s' => ∃ H', Inv X pins σ H' s' ∧ Q H') X.xe s := fun {H' kvs} I' e1 e2 e3 => by
        have hl := e2.length
        refine d_setItem (by omega) I' (DPut.k (k := key) (v := v) e1 (by omega)) ri rv fun s' I2 => ⟨_, I2, ?_⟩
        rw [e3]
        exact hw _ ⟨_, rfl, dvK_put key hv e2⟩
      rcases hc with ⟨kvs, h1, h2⟩ | ⟨kvs, h1, h2⟩
      · exact core I h1 h2 fun _ => rfl
      · obtain ⟨rfl, rfl⟩ := dvT_keys h2 hall
        obtain ⟨z1, z2⟩ := rdK_of hg I (.inl h1)
        have he : ∃ q, s.heap.get? a = some q := let ⟨q, _, _, hq, _⟩ := z2; ⟨q, hq⟩
        have I' : Inv X pins σ (upd H a (.dK [])) s := I.write (t' := s.toks) (e := a) (by rw [h1]; exact True.intro) (.inl rfl) (fun b u _ e => e) he ⟨Nat.zero_le _, z1, [], .nil, z2⟩
        exact core I' upd_same .nil fun o => upd_upd
    · cases hp
  | _ => exact hc.elim
theorem ms_setI {i : Nat} {k v : E} {x : Str} {kx vx : Expr} {p tpos pos : Pos} (hg : J.T.g = ⟨X.prog, X.w⟩) (hu : X.A.units + 200 < cLine) (hN : X.N[i]? = some x) (hvs : Vis X.env.scope x) (hd : (x == ("__debug__" : Str)) = false) (hcd : (x == ("__classdict__" : Str)) = false)
    (hk : PE X kx (TEm J (evE C k))) (hv : PE X vx (TEm J (evE C v))) (hp : plainX kx = true) (hs : swapsWith vx (some (.Subscript (.Name x p) kx tpos)) pos.line X.env = pure false) : PS X (.Assign [.Subscript (.Name x p) kx tpos] vx pos) (TSm J (evS C (.setI i k v))) := by
  have ha : ∀ v, assign (.Subscript (.Name x p) kx tpos) X.env v = (do
      let ov ← holding [v] (eval (.Name x p) X.env)
      let iv ← holding [v, ov] (eval kx X.env)
      standAt tpos
      holding [v, ov, iv] (setItem ov iv v)
      release [v, ov, iv] []) := by intro v; cases kx <;> first | rfl | cases hp
  refine PS.weak (ps_asg hv (pg_sub (pe_var hN hvs hd hcd) hk (set_M (g := J.T.g) hg hu) ha) hs) fun D σ H ⟨w, env, mh, R, o⟩ => ?_
  have o : SG J w H (if hasAt env i then SO.of env (fun r mh => SO.of env (fun q mh => match r, q with
      | .dat d, .dat x => upR i (fun c => putC c x d) env mh
      | _, _ => .stuck) (evE C k env mh)) (evE C v env mh) else .stuck) D := o
  split at o
  · rename_i hh
    have hat : ∃ rv, env[i]? = some (some rv) := by
      unfold hasAt at hh
      split at hh
      · rename_i r e; exact ⟨r, e⟩
      · cases hh
    obtain ⟨rv0, he0⟩ := hat
    obtain ⟨v0, hs0, _⟩ := R.e.ok i rv0 he0
    refine ⟨w, env, mh, R, (SG.of (rel := RvOk J.T) R o).mono fun v1 H1 ⟨w1, rv, mh1, x1, R1, r1, o1⟩ => ?_⟩
    have R1' := R.ext x1 R1
    refine ⟨v0, hs0, w1, env, mh1, R1', (SG.of (rel := RvOk J.T) R1' o1).mono fun v2 H2 ⟨w2, rk, mh2, x2, R2, r2, o2⟩ => ?_⟩
    have R2' := R1'.ext x2 R2
    cases rv with
    | dat d => cases rk with
     | dat e =>
      obtain ⟨a, c, c', hs', hf, h1, hF, hw⟩ := upR_at R2' o2 (fun c c' h => by
        unfold putC at h
        split at h
        · obtain ⟨j, _, rfl⟩ := Option.map_eq_some_iff.mp h
          exact .inl ⟨_, _, rfl, rfl⟩
        · split at h
          · cases h; exact .inr ⟨_, _, rfl, rfl⟩
          · cases h
        · cases h)
      rw [hs0] at hs'; cases hs'
      exact ⟨w2.F, a, c, e, d, c', rfl, h1, r2, x2.dv r1, hf, hw⟩
     | _ => exact o2.elim
    | _ => exact o2.elim
  · exact o.elim
/-- x += e on ints -/
theorem ms_aug {i : Nat} {op : Operator} {e : E} {x : Str} {v : Expr} {p pos : Pos} (hop : op = .Add ∨ op = .Sub) (hN : X.N.Nodup) (hi : X.N[i]? = some x) (hx : Loc X.env.scope x) (hf : X.fn x = true ∨ X.env.scope.names.lookup x = some .local) (he : PE X v (TEm J (evE C e)))
    (hd : (x == ("__debug__" : Str)) = false) (hcd : (x == ("__classdict__" : Str)) = false) : PS X (.AugAssign (.Name x p) op v pos) (TSm J (evS C (.aug i op e))) := by
  rcases hop with rfl | rfl
  · refine PS.weak (ps_aug hN hi hx he ip_add hf) fun D σ H ⟨w, env, mh, R, o⟩ => ?_
    have o : SG J w H (match env[i]? with
      | some (some (.dat (.int a))) => SO.of env (fun r mh => match r with
        | .dat (.int b) => .next (env.set i (some (.dat (.int (a + b))))) mh
        | _ => .stuck) (evE C e env mh)
      | _ => .stuck) D := o
    split at o
    · rename_i a he
      obtain ⟨v0, hs0, r0⟩ := R.e.ok i _ he
      cases r0
      refine ⟨_, hs0, w, env, mh, R, (SG.of (rel := RvOk J.T) R o).mono fun v1 H1 ⟨w1, rv, mh1, x1, R1, r1, o1⟩ => ?_⟩
      have R1' := R.ext x1 R1
      split at o1
      · cases r1
        exact ⟨a, _, rfl, rfl, o1.next .refl (R1'.setD (v := .int _) (rv := .dat (.int _)) (.int _) rfl)⟩
      · exact o1.elim
    · exact o.elim
  · refine PS.weak (ps_aug hN hi hx he ip_sub hf) fun D σ H ⟨w, env, mh, R, o⟩ => ?_
    have o : SG J w H (match env[i]? with
      | some (some (.dat (.int a))) => SO.of env (fun r mh => match r with
        | .dat (.int b) => .next (env.set i (some (.dat (.int (a - b))))) mh
        | _ => .stuck) (evE C e env mh)
      | _ => .stuck) D := o
    split at o
    · rename_i a he
      obtain ⟨v0, hs0, r0⟩ := R.e.ok i _ he
      cases r0
      refine ⟨_, hs0, w, env, mh, R, (SG.of (rel := RvOk J.T) R o).mono fun v1 H1 ⟨w1, rv, mh1, x1, R1, r1, o1⟩ => ?_⟩
      have R1' := R.ext x1 R1
      split at o1
      · cases r1
        exact ⟨a, _, rfl, rfl, o1.next .refl (R1'.setD (v := .int _) (rv := .dat (.int _)) (.int _) rfl)⟩
      · exact o1.elim
    · exact o.elim

/-! ### returns -/
theorem RvN.freeze {T : Stat} {B : Base} {w : Wd} {env : MEnv} {mh : MH} {σ : L2.St} {H : Hp} {i : Nat} {r r' : RV} {v : V} (R : Rel T B w env mh σ H) (he : env[i]? = some (some r)) (hs : σ[i]? = some (some v)) (h : RvOk T w H v r) (hf : frzR r = some r') :
    ∃ w', Ext B.w B.H w' H ∧ RelH T w' mh H ∧ RvN T B.H w' H v r' := by
  cases r with
  | dat d => cases (Option.some.inj hf); exact ⟨w, R.x, R.h, h, fun z => by cases z⟩
  | ref n => cases (Option.some.inj hf); exact ⟨w, R.x, R.h, h, fun z => by cases z⟩
  | olst ds =>
    cases (Option.some.inj hf)
    obtain ⟨a, xs, rfl, h1, h2, h3, h4⟩ := h
    have hb := R.own i _ a he rfl hs
    exact ⟨w.add a, R.x.freeze hb, R.h.freeze h3 h1, .lst (.inr rfl) (.inl h1) (h2.mono (fun _ => .inl) fun _ _ _ e => e), fun z => by cases z⟩
  | odct ps =>
    cases (Option.some.inj hf)
    obtain ⟨a, rfl, h1, h3, h4⟩ := h
    have hb := R.own i _ a he rfl hs
    rcases h1 with ⟨kvs, h1, h2⟩ | ⟨kvs, h1, h2⟩
    · exact ⟨w.add a, R.x.freeze hb, R.h.freeze h3 h1, .dK (.inr rfl) (.inl h1) (h2.mono (fun _ => .inl) fun _ _ _ e => e), fun z => by cases z⟩
    · exact ⟨w.add a, R.x.freeze hb, R.h.freeze h3 h1, .dT (.inr rfl) (.inl h1) (h2.mono (fun _ => .inl) fun _ _ _ e => e), fun z => by cases z⟩
  | xcp c a => cases hf
theorem ms_retV {i : Nat} {x : Str} {p pos : Pos} (hN : X.N[i]? = some x) (hv : Vis X.env.scope x) (hd : (x == ("__debug__" : Str)) = false) (hcd : (x == ("__classdict__" : Str)) = false) : PS X (.Return (some (.Name x p)) pos) (TSm J (evS C (.ret (.var i)))) := by
  refine PS.weak (ps_ret (pe_var hN hv hd hcd)) fun D σ H ⟨w, env, mh, R, o⟩ => ?_
  have o : SG J w H (match env[i]? with
      | some (some r) => (match frzR r with
        | some r => .ret r mh
        | none => .stuck)
      | _ => .stuck) D := o
  split at o
  · rename_i r he
    obtain ⟨v, hs, hr⟩ := R.e.ok i r he
    split at o
    · rename_i r' hf
      obtain ⟨w', e1, e2, e3⟩ := RvN.freeze R he hs hr hf
      exact ⟨v, hs, o w' v H e1 e2 e3⟩
    · exact o.elim
  · exact o.elim
theorem ms_retMV {i : Nat} {x : Str} {p pos : Pos} (hN : X.N[i]? = some x) (hv : Vis X.env.scope x) (hd : (x == ("__debug__" : Str)) = false) (hcd : (x == ("__classdict__" : Str)) = false) : PS X (.Return (some (.Name x p)) pos) (TSm J (evS C (.retM (.var i)))) := by
  refine PS.weak (ps_ret (pe_var hN hv hd hcd)) fun D σ H ⟨w, env, mh, R, o⟩ => ?_
  have o : SG J w H (match env[i]? with
      | some (some (.olst xs)) => .ret (.olst xs) mh
      | some (some (.odct kvs)) => .ret (.odct kvs) mh
      | _ => .stuck) D := o
  split at o
  · rename_i xs he
    obtain ⟨v, hs, hr⟩ := R.e.ok i _ he
    exact ⟨v, hs, o w v H R.x R.h ⟨hr, fun _ a e => R.own i _ a he rfl (by rw [hs, e])⟩⟩
  · rename_i xs he
    obtain ⟨v, hs, hr⟩ := R.e.ok i _ he
    exact ⟨v, hs, o w v H R.x R.h ⟨hr, fun _ a e => R.own i _ a he rfl (by rw [hs, e])⟩⟩
  · exact o.elim
def notVar : E → Bool
  | .var _ => false
  | _ => true
theorem evS_ret {e : E} (h : notVar e = true) (env : MEnv) (mh : MH) : evS C (.ret e) env mh = SO.of env (fun r mh => match r with
      | .dat d => .ret (.dat d) mh
      | .ref n => .ret (.ref n) mh
      | _ => .stuck) (evE C e env mh) := by cases e <;> first | rfl | cases h
theorem evS_retM {e : E} (h : notVar e = true) (env : MEnv) (mh : MH) : evS C (.retM e) env mh = SO.of env (fun r mh => match freshV e r with
      | some r => .ret r mh
      | none => .stuck) (evE C e env mh) := by cases e <;> first | rfl | cases h
theorem ms_ret {e : E} {x : Expr} {pos : Pos} (h : notVar e = true) (he : PE X x (TEm J (evE C e))) : PS X (.Return (some x) pos) (TSm J (evS C (.ret e))) :=
  PS.weak (ps_ret he) fun D σ H ⟨w, env, mh, R, o⟩ => by
    rw [evS_ret h] at o
    refine ⟨w, env, mh, R, (SG.of (rel := RvOk J.T) R o).mono fun v1 H1 ⟨w1, rv, mh1, x1, R1, r1, o1⟩ => ?_⟩
    have R1' := R.ext x1 R1
    cases rv with
    | dat d => exact o1 w1 v1 H1 R1'.x R1 ⟨r1, fun z => by cases z⟩
    | ref n => exact o1 w1 v1 H1 R1'.x R1 ⟨r1, fun z => by cases z⟩
    | _ => exact o1.elim
theorem ms_retM {e : E} {x : Expr} {pos : Pos} (h : notVar e = true) (he : PE X x (TEo J C e)) : PS X (.Return (some x) pos) (TSm J (evS C (.retM e))) :=
  PS.weak (ps_ret he) fun D σ H ⟨w, env, mh, R, o⟩ => by
    rw [evS_retM h] at o
    refine TEo.run R ((SG.of R o).mono fun v1 H1 ⟨w1, rv, mh1, x1, R1, r1, o1⟩ => ?_)
    have R1' := R.ext x1 R1
    split at o1
    · rename_i r hr
      obtain ⟨a, rfl, hn, h1, h2⟩ := freshV_of r1 hr
      exact o1 w1 _ H1 R1'.x R1 ⟨h1, fun _ b e => by cases e; exact R.x.old R.h a hn⟩
    · exact o1.elim

/-! ### loops -/
theorem ms_for {t : Tg} {it : Mn.It} {bd : Ss} {tx ix : Expr} {body : List Stmt} {pos : Pos} (hp : PassesOwn (model X.prog X.w) X.A X.env X.xe) (hc : X.calm = true) (hi : PI X tx ix (TIm J FKeep t (evItF C it))) (hg : PG X tx (TGm J t)) (hb : PSs X body (TSm J (evSs C bd))) (hx : plainX ix = true) :
    PS X (.For tx ix body [] pos) (TSm J (evS C (.for_ t it bd))) :=
  PS.weak (ps_for hp hc hi hg hb (folded_of hx)) fun D σ H ⟨w, env, mh, R, o⟩ => by
    refine ⟨w, env, mh, R, (SG.of (rel := WalksR FKeep t J.T.g) R o).mono fun I H1 ⟨w1, ds, mh1, x1, R1, wk, o1⟩ => ?_⟩
    refine ⟨fun i m σ' Hc => m = ds.length - i ∧ i ≤ ds.length ∧ ∃ wc envc mhc, FKeep w1 H1 wc Hc ∧ Rel J.T J.B wc envc mhc σ' Hc ∧ SG J wc Hc (forL t (fun env mh => evSs C bd env mh) (ds.drop i) envc mhc) D,
      ⟨_, rfl, Nat.zero_le _, w1, env, mh1, .refl, R.ext x1 R1, o1⟩, ?_⟩
    intro i m σ' Hc ⟨hm, hil, wc, envc, mhc, kc, Rc, oc⟩
    have wkc := wk wc Hc kc
    by_cases hlt : i < ds.length
    · refine .inr ⟨wkc.1 i hlt, fun σn Hn => ∃ wn envn mhn, FKeep w1 H1 wn Hn ∧ Rel J.T J.B wn envn mhn σn Hn ∧ SG J wn Hn (forL t (fun env mh => evSs C bd env mh) (ds.drop (i + 1)) envn mhn) D, fun σn Hn hn => ⟨ds.length - (i + 1), by omega, rfl, by omega, hn⟩, ?_⟩
      intro x Hy hy
      obtain ⟨d, hd, bd', hH⟩ := wkc.2.2 i x Hy hy hlt
      have hdrop : ds.drop i = d :: ds.drop (i + 1) := by
        rw [List.drop_eq_getElem_cons hlt]
        rw [List.getElem?_eq_getElem hlt] at hd
        cases hd; rfl
      rw [hdrop] at oc
      have xy : Ext wc Hc wc Hy := by
        rcases hH with rfl | ⟨p, ob, hp, rfl⟩
        · exact .refl
        · exact Ext.lay hp
      have Ry : RelH J.T wc mhc Hy := by
        rcases hH with rfl | ⟨p, ob, hp, rfl⟩
        · exact Rc.h
        · exact Rc.h.lay hp
      unfold forL at oc
      cases hb : bindT t d envc with
      | none => rw [hb] at oc; exact oc.elim
      | some env' =>
        rw [hb] at oc
        refine ⟨wc, envc, d, env', mhc, Rc.ext xy Ry, bd', hb, fun σ2 R2 _ => ⟨wc, env', mhc, R2, ?_⟩⟩
        refine (SG.turn (SG.later xy.fk oc)).mono (fun σn Hn ⟨wn, en, mn, k, r, o⟩ => ⟨wn, en, mn, (kc.trans xy.fk).trans k, r, o⟩) (fun _ _ h => h) (fun _ _ h => h) (fun σn Hn ⟨wn, en, mn, k, r, o⟩ => ⟨wn, en, mn, (kc.trans xy.fk).trans k, r, o⟩)
    · have hie : i = ds.length := by omega
      subst hie
      rw [List.drop_length] at oc
      exact .inl ⟨wkc.2.1, oc.next .refl Rc⟩
theorem ms_while {n : Nat} {c : E} {bd : Ss} {x : Expr} {body : List Stmt} {pos : Pos} (hp : PassesOwn (model X.prog X.w) X.A X.env X.xe) (hc : PT X x (TTm J (evT C c))) (hb : PSs X body (TSm J (evSs C bd))) :
    PS X (.While x body [] pos) (TSm J (evS C (.while_ n c bd))) :=
  PS.weak (ps_while hp hc hb) fun D σ H ⟨w, env, mh, R, o⟩ => by
    refine ⟨fun m σ' Hc => ∃ wc envc mhc, Rel J.T J.B wc envc mhc σ' Hc ∧ FKeep w H wc Hc ∧ SG J wc Hc (whileL (fun env mh => evT C c env mh) (fun env mh => evSs C bd env mh) m envc mhc) D, ⟨n, w, env, mh, R, .refl, o⟩, ?_⟩
    intro m σ' Hc ⟨wc, envc, mhc, Rc, kc, oc⟩
    cases m with
    | zero => exact oc.elim
    | succ m =>
      unfold whileL at oc
      refine ⟨wc, envc, mhc, Rc, (SG.of (rel := relB) Rc oc).mono fun v H1 ⟨w1, t, mh1, x1, R1, r1, o1⟩ => ?_⟩
      cases (show v = t from r1)
      have R1' := Rc.ext x1 R1
      cases v with
      | true =>
        rw [if_pos rfl]
        refine ⟨fun σn Hn => ∃ wn envn mhn, Rel J.T J.B wn envn mhn σn Hn ∧ FKeep w H wn Hn ∧ SG J wn Hn (whileL (fun env mh => evT C c env mh) (fun env mh => evSs C bd env mh) m envn mhn) D, fun σn Hn hn => ⟨m, Nat.lt_succ_self _, hn⟩, w1, envc, mh1, R1', ?_⟩
        exact (SG.turn o1).mono (fun σn Hn ⟨wn, en, mn, k, r, o⟩ => ⟨wn, en, mn, r, (kc.trans x1.fk).trans k, o⟩) (fun _ _ h => h) (fun _ _ h => h) (fun σn Hn ⟨wn, en, mn, k, r, o⟩ => ⟨wn, en, mn, r, (kc.trans x1.fk).trans k, o⟩)
      | false =>
        rw [if_neg (by simp)]
        exact o1.next .refl R1'

/-! ### a list that is not written any more -/
theorem mss_frz {i : Nat} {r : Ss} {xs : List Stmt} (h : PSs X xs (TSm J (evSs C r))) : PSs X xs (TSm J (evSs C (.cons (.frz i) r))) :=
  PSs.weak h fun D σ H ⟨w, env, mh, R, o⟩ => by
    have o : SG J w H ((match env[i]? with
      | some (some (.olst xs)) => SO.next (env.set i (some (.dat (.list xs)))) mh
      | some (some (.odct kvs)) => .next (env.set i (some (.dat (.dict kvs)))) mh
      | _ => .next env mh).then (fun env mh => evSs C r env mh)) D := o
    have frz : ∀ {rv : RV} {d : PyData}, env[i]? = some (some rv) → rv.own = true → frzR rv = some (.dat d) → ∃ w', FKeep w H w' H ∧ Rel J.T J.B w' (env.set i (some (.dat d))) mh σ H := fun {rv d} he ho hf => by
      obtain ⟨v, hs, hr⟩ := R.e.ok i rv he
      obtain ⟨a, ob, rfl, h1, h3, h4⟩ := own_ref hr ho
      have hb := R.own i _ a he ho hs
      have rd : Dv J.T.g (w.add a).F H (.ref a) d := by
        cases rv with
        | olst ds =>
          cases (Option.some.inj hf)
          obtain ⟨b, xs, e, g1, g2, _⟩ := hr
          cases e
          exact .lst (.inr rfl) (.inl g1) (g2.mono (fun _ => .inl) fun _ _ _ e => e)
        | odct ps =>
          cases (Option.some.inj hf)
          obtain ⟨b, e, g1, _⟩ := hr
          cases e
          rcases g1 with ⟨kvs, g1, g2⟩ | ⟨kvs, g1, g2⟩
          · exact .dK (.inr rfl) (.inl g1) (g2.mono (fun _ => .inl) fun _ _ _ e => e)
          · exact .dT (.inr rfl) (.inl g1) (g2.mono (fun _ => .inl) fun _ _ _ e => e)
        | _ => cases ho
      refine ⟨w.add a, ⟨fun _ h => .inl h, fun _ _ _ e => e⟩, ⟨R.h.freeze h3 h1, ⟨by rw [List.length_set]; exact R.e.len, fun j r hj => ?_, fun j k r1 r2 b hjk e1 e2 o1 o2 s1 s2 => ?_⟩, R.x.freeze hb, fun j r b hj o1 s1 => ?_⟩⟩
      · rcases set_get hj with ⟨rfl, e⟩ | ⟨hne, hj'⟩
        · cases e; exact ⟨_, hs, rd⟩
        · obtain ⟨u, e, q⟩ := R.e.ok j r hj'
          refine ⟨u, e, ?_⟩
          cases r with
          | dat d' => exact Dv.mono (fun _ => .inl) (fun _ _ _ e => e) q
          | ref n => exact q
          | olst ds =>
            obtain ⟨b, xs, rfl, g1, g2, g3, g4⟩ := q
            refine ⟨b, xs, rfl, g1, g2.mono (fun _ => .inl) fun _ _ _ e => e, g3, fun z => ?_⟩
            rcases z with z | z
            · exact g4 z
            · subst z; exact R.e.own j i _ rv _ hne hj' he rfl ho e hs
          | odct ps =>
            obtain ⟨b, rfl, g1, g3, g4⟩ := q
            refine ⟨b, rfl, ?_, g3, fun z => ?_⟩
            · rcases g1 with ⟨kvs, g1, g2⟩ | ⟨kvs, g1, g2⟩
              · exact .inl ⟨kvs, g1, g2.mono (fun _ => .inl) fun _ _ _ e => e⟩
              · exact .inr ⟨kvs, g1, g2.mono (fun _ => .inl) fun _ _ _ e => e⟩
            · rcases z with z | z
              · exact g4 z
              · subst z; exact R.e.own j i _ rv _ hne hj' he rfl ho e hs
          | xcp c arg =>
            obtain ⟨b, cls, dd, e1, e2, e3, e4⟩ := q
            refine ⟨b, cls, dd, e1, e2, e3, ?_⟩
            cases arg with
            | none => exact e4
            | some x =>
              obtain ⟨p, u', g1, g2, g3, g4⟩ := e4
              exact ⟨p, u', g1, .inl g2, g3, g4.mono (fun _ => .inl) fun _ _ _ e => e⟩
      · rcases set_get e1 with ⟨_, e1'⟩ | ⟨n1, e1'⟩
        · cases e1'; cases o1
        rcases set_get e2 with ⟨_, e2'⟩ | ⟨n2, e2'⟩
        · cases e2'; cases o2
        exact R.e.own j k r1 r2 b hjk e1' e2' o1 o2 s1 s2
      · rcases set_get hj with ⟨_, e1'⟩ | ⟨n1, e1'⟩
        · cases e1'; cases o1
        exact R.own j r b e1' o1 s1
    split at o
    · rename_i xs he
      obtain ⟨w', k, R'⟩ := frz he rfl rfl
      exact ⟨w', _, mh, R', SG.later k o⟩
    · rename_i xs he
      obtain ⟨w', k, R'⟩ := frz he rfl rfl
      exact ⟨w', _, mh, R', SG.later k o⟩
    · exact ⟨w, env, mh, R, o⟩
end
end Mn
end
section
set_option linter.all false
set_option autoImplicit false
set_option maxRecDepth 100000
/-! Mini: rules for raise, try, caught errors. -/
namespace Mn
open PySem PySem.Spec PyProof.Rows L2

abbrev veMro : List Value := [.type "ValueError", .type "Exception", .type "BaseException", .type "object"]
/-- an own error class without fields: what the written part says -/
structure Kl0 (X : Cx) (x : Str) (A : Addr) : Prop where
  ex : PySem.W.excIn X.K A veMro "ValueError.__new__" = true
  gl : X.mg x = some (.ref A)
  kp : PySem.W.keepIn X.K (.ref A) = true
  sb : PySem.W.subIn X.K (.ref A) (.type "BaseException") = some true
  ty : PySem.W.typeIn X.K (.ref A) = some (.type "type")
  db : (x == ("__debug__" : Str)) = false
theorem pmk_own0 {X : Cx} {x : Str} {A : Addr} {p pos : Pos} (k : Kl0 X x A) (hg : Gl X x) : PMk X (.Call (.Name x p) [] [] pos) (fun _ H Q => Q (.ref A) none H) := by
  intro pins s σ H Q I h
  refine wpAny_Call_Name_kw (ld_glob I hg k.gl ?_ k.db)
  refine PySem.W.callWith_K0 I.kIn k.kp ?_
  show wpAny _ _ (call (.ref A) []) _ _ _
  obtain ⟨bm, N, nm, qn, bs, hdct, sn, sub, ab, col, dd, k0, k1, k2, k3, k5, mN, hC, hN, hni, T⟩ := exc_obj I.kIn k.ex
  refine wpAny_call_exc_subT F.excBase_ValueError T hC hN hni (fun h' e hm => ?_) (Nat.zero_le _)
  exact mk_of I hm (raises_own k.sb k.ty) h (I.hok.gone hm.new)
section
variable {X : Cx} {J : Jd} {C : CallF}
theorem ms_raise0 {c : Nat} {x : Str} {p cpos pos : Pos} (hc : X.calm = true) (tk : Takes X J.W) (k : Kl0 X x (J.T.ca c)) (hg : Gl X x) : PS X (.Raise (some (.Call (.Name x p) [] [] cpos)) none pos) (TSm J (evS C (.raise c .nil))) :=
  PS.weak (ps_raise hc tk (pmk_own0 k hg)) fun D σ H ⟨w, env, mh, R, o⟩ => o w σ (.ref (J.T.ca c)) none H .refl R ⟨rfl, rfl⟩

/-! ### try -/
/-- what a suite stands over: the error that it holds -/
def Stat.at (T : Stat) (a : Addr) (cls : Value) (d : Option Addr) : Stat := { T with ex := some (a, cls, d) }
def Jd.suite (J : Jd) (a : Addr) (cls : Value) (d : Option Addr) : Jd := { T := J.T.at a cls d, B := J.B, W := fun _ _ _ _ => False }
section
variable {T : Stat} {w : Wd} {mh : MH} {H : Hp} {a : Addr} {cls : Value} {d : Option Addr}
theorem FsOk.to {e : Option (Addr × Value × Option Addr)} : ∀ {fs : List (Str × V)} {gs : List (Nat × RV)}, FsOk T w H fs gs → FsOk { T with ex := e } w H fs gs
  | _, _, .nil => .nil
  | _, _, .dat (k := k) r t => FsOk.dat (T := { T with ex := e }) (k := k) r t.to
  | _, _, .ref (k := k) r t => FsOk.ref (T := { T with ex := e }) (k := k) r t.to
theorem CellOk.to {e : Option (Addr × Value × Option Addr)} {b : Addr} {c : Cell} (h : CellOk T w H b c) : CellOk { T with ex := e } w H b c := by
  cases c with
  | ins c fs => obtain ⟨dx, hfs, h1, h2, h3⟩ := h; exact ⟨dx, hfs, h1, h2.to, h3⟩
  | lst ds => exact h
  | dct ps => exact h
  | dead => trivial
theorem RelH.to {e : Option (Addr × Value × Option Addr)} (R : RelH T w mh H) : RelH { T with ex := e } w mh H := ⟨R.len, R.nd, R.thF, R.thC, fun n c a h1 h2 => (R.ok n c a h1 h2).to, R.live⟩
theorem RvOk.to {e : Option (Addr × Value × Option Addr)} {v : V} {r : RV} (h : RvOk T w H v r) (hx : r.noX = true) : RvOk { T with ex := e } w H v r := by
  cases r with
  | xcp c a => cases hx
  | _ => exact h
theorem Rel.to {e : Option (Addr × Value × Option Addr)} {B : Base} {env : MEnv} {σ : L2.St} (R : Rel T B w env mh σ H) (hx : ∀ (i : Nat) (r : RV), env[i]? = some (some r) → r.noX = true) : Rel { T with ex := e } B w env mh σ H :=
  ⟨R.h.to, ⟨R.e.len, fun i r h => let ⟨v, e1, q⟩ := R.e.ok i r h; ⟨v, e1, q.to (hx i r h)⟩, R.e.own⟩, R.x, R.own⟩
theorem noX_get {env : MEnv} (h : Mn.noX env = true) : ∀ (i : Nat) (r : RV), env[i]? = some (some r) → r.noX = true := fun i r e => by
  have := List.all_eq_true.mp h (some r) (List.mem_of_getElem? e)
  exact this
theorem Rel.noX {B : Base} {env : MEnv} {σ : L2.St} (R : Rel T B w env mh σ H) (hT : T.ex = none) : ∀ (i : Nat) (r : RV), env[i]? = some (some r) → r.noX = true := fun i r e => by
  obtain ⟨v, _, q⟩ := R.e.ok i r e
  cases r with
  | xcp c a => obtain ⟨_, _, _, _, z, _⟩ := q; rw [hT] at z; cases z
  | _ => rfl
theorem Stat.ex_self {T : Stat} (hT : T.ex = none) : { T with ex := none } = T := by cases T; cases hT; rfl
theorem Stat.at_back {T : Stat} (hT : T.ex = none) : { T.at a cls d with ex := none } = T := by cases T; cases hT; rfl
end
theorem RelH.unsuite {w : Wd} {mh : MH} {H : Hp} {a : Addr} {cls : Value} {d : Option Addr} (hT : J.T.ex = none) (r : RelH (J.suite a cls d).T w mh H) : RelH J.T w mh H := by
  have e : ({ (J.T.at a cls d) with ex := none } : Stat) = J.T := Stat.at_back hT
  rw [← e]
  exact RelH.to (T := J.T.at a cls d) r
theorem RvOk.unsuite {w : Wd} {H : Hp} {a : Addr} {cls : Value} {d : Option Addr} {v : V} {x : RV} (hT : J.T.ex = none) (r : RvOk (J.suite a cls d).T w H v x) (hx : x.noX = true) : RvOk J.T w H v x := by
  have e : ({ (J.T.at a cls d) with ex := none } : Stat) = J.T := Stat.at_back hT
  rw [← e]
  exact RvOk.to (T := J.T.at a cls d) r hx
theorem ms_tryAs {k c : Nat} {bd su : Ss} {x n : Str} {cv : Value} {body suite : List Stmt} {b₀ : Stmt} {np pos pos' : Pos} (hT : J.T.ex = none) (hs : X.stack = X.env :: X.outer) (hf : X.env.frame = some X.env.locals) (hN : X.N.Nodup) (hi : X.N[k]? = some n) (hln : X.env.kindOf n = some .local) (hc : Names X x cv) (tk : Takes X J.W)
    (hsub : ∀ y b, C.sub y c = some b → PySem.W.exmOne X.K (.ref (J.T.ca y)) cv = some b)
    (hb : ∀ (W : WX) (pn : List (Addr × Obj)) (xe : Value → Shared → Prop), Takes (X.tr pn xe) W → PassesOwn (model X.prog X.w) X.A X.env xe → PSs (X.tr pn xe) body (TSm { J with W := W } (evSs C bd)))
    (hsu : ∀ (a : Addr) (oe : Obj) (cls : Value) (d : Option Addr) (pn : List (Addr × Obj)), Zc cls d oe → (∃ vs, oe.data = .fields vs) → PSs (X.suite a ((a, oe) :: pn)) (b₀ :: suite) (TSm (J.suite a cls d) (evSs C su))) :
    PS X (.Try body [.ExceptHandler (some (.Name x np)) (some n) (b₀ :: suite) pos'] [] [] pos) (TSm J (evS C (.try_ bd c (some k) su))) := by
  refine PS.weak (ps_try_as (tb := fun W => TSm { J with W := W } (evSs C bd)) (ts := fun a cls d => TSm (J.suite a cls d) (evSs C su)) hs hf hN hi hln hc tk hb hsu) fun D σ H ⟨w, env, mh, R, o⟩ => ?_
  refine ⟨w, env, mh, R, ?_⟩
  have o : SG J w H (match evSs C bd env mh with
    | .exc x env' mh' => (match C.sub x.c c with
      | some true => if k < env'.length then (evSs C su (env'.set k (some (.xcp x.c x.arg))) mh').unX k else .stuck
      | some false => .exc x env' mh'
      | none => .stuck)
    | o => o) D := o
  cases he : evSs C bd env mh with
  | next e m => rw [he] at o; exact o
  | brk e m => rw [he] at o; exact o
  | cont e m => rw [he] at o; exact o
  | ret r m => rw [he] at o; exact o
  | stuck => rw [he] at o; exact o.elim
  | exc y env' mh' =>
    rw [he] at o
    have o : SG J w H (match C.sub y.c c with
      | some true => if k < env'.length then (evSs C su (env'.set k (some (.xcp y.c y.arg))) mh').unX k else .stuck
      | some false => .exc y env' mh'
      | none => .stuck) D := o
    intro w' σ' cls d H' kk R' hx
    cases hsb : C.sub y.c c with
    | none => rw [hsb] at o; exact o.elim
    | some b =>
      have hcls := hx.1
      refine ⟨b, by rw [hcls]; exact hsub _ _ hsb, fun hbt a hn => ?_, fun hbf => ?_⟩
      · subst hbt
        rw [hsb] at o
        have o : SG J w H (if k < env'.length then (evSs C su (env'.set k (some (.xcp y.c y.arg))) mh').unX k else .stuck) D := o
        split at o
        · have nx' := Rel.noX R' hT
          have R2 : Rel (J.T.at a cls d) J.B w' env' mh' σ' H' := R'.to nx'
          have R3 : Rel (J.T.at a cls d) J.B w' (env'.set k (some (.xcp y.c y.arg))) mh' (σ'.set k (some (.ref a))) H' := R2.setD (v := .ref a) (rv := .xcp y.c y.arg) ⟨a, cls, d, rfl, rfl, hx⟩ rfl
          refine ⟨w', _, mh', R3, ?_⟩
          -- the suite's end
          have back : ∀ {w1 : Wd} {e1 : MEnv} {m1 : MH} {σ1 : L2.St} {H1 : Hp}, Rel (J.T.at a cls d) J.B w1 e1 m1 σ1 H1 → noX (e1.set k none) = true → Rel J.T J.B w1 (e1.set k none) m1 (σ1.set k none) H1 := fun r hx => by
            have q := (r.drop (i := k) (o := none)).to (e := none) (noX_get hx)
            rw [Stat.at_back hT] at q
            exact q
          generalize evSs C su (env'.set k (some (.xcp y.c y.arg))) mh' = so at o ⊢
          cases so with
          | next e m =>
            have o : SG J w H (if Mn.noX (e.set k none) then .next (e.set k none) m else .stuck) D := o
            split at o
            · rename_i hh; exact fun w1 σ1 H1 fk r => o w1 _ H1 (kk.trans fk) (back r hh)
            · exact o.elim
          | brk e m =>
            have o : SG J w H (if Mn.noX (e.set k none) then .brk (e.set k none) m else .stuck) D := o
            split at o
            · rename_i hh; exact fun w1 σ1 H1 fk r => o w1 _ H1 (kk.trans fk) (back r hh)
            · exact o.elim
          | cont e m =>
            have o : SG J w H (if Mn.noX (e.set k none) then .cont (e.set k none) m else .stuck) D := o
            split at o
            · rename_i hh; exact fun w1 σ1 H1 fk r => o w1 _ H1 (kk.trans fk) (back r hh)
            · exact o.elim
          | ret r m =>
            have o : SG J w H (if r.noX then .ret r m else .stuck) D := o
            split at o
            · rename_i hh
              refine fun w1 v H1 x1 r1 r2 => o w1 v H1 x1 ?_ ⟨?_, r2.2⟩
              · exact RelH.unsuite hT r1
              · exact RvOk.unsuite hT r2.1 hh
            · exact o.elim
          | exc z e m => exact o.elim
          | stuck => exact o.elim
        · exact o.elim
      · subst hbf
        rw [hsb] at o
        exact o w' σ' cls d H' kk R' hx
theorem ms_tryOnly {c : Nat} {bd su : Ss} {x : Str} {cv : Value} {body suite : List Stmt} {b₀ : Stmt} {np pos pos' : Pos} (hs : X.stack = X.env :: X.outer) (hf : X.env.frame = some X.env.locals) (hc : Names X x cv) (tk : Takes X J.W)
    (hsub : ∀ y b, C.sub y c = some b → PySem.W.exmOne X.K (.ref (J.T.ca y)) cv = some b)
    (hb : ∀ (W : WX) (pn : List (Addr × Obj)) (xe : Value → Shared → Prop), Takes (X.tr pn xe) W → PassesOwn (model X.prog X.w) X.A X.env xe → PSs (X.tr pn xe) body (TSm { J with W := W } (evSs C bd)))
    (hsu : ∀ (a : Addr) (oe : Obj) (cls : Value) (d : Option Addr) (pn : List (Addr × Obj)), Zc cls d oe → (∃ vs, oe.data = .fields vs) → PSs (X.suite a ((a, oe) :: pn)) (b₀ :: suite) (TSm J.nox (evSs C su))) :
    PS X (.Try body [.ExceptHandler (some (.Name x np)) none (b₀ :: suite) pos'] [] [] pos) (TSm J (evS C (.try_ bd c none su))) := by
  refine PS.weak (ps_try_only (tb := fun W => TSm { J with W := W } (evSs C bd)) (ts := fun a cls d => TSm J.nox (evSs C su)) hs hf hc tk hb hsu) fun D σ H ⟨w, env, mh, R, o⟩ => ?_
  refine ⟨w, env, mh, R, ?_⟩
  have o : SG J w H (match evSs C bd env mh with
    | .exc x env' mh' => (match C.sub x.c c with
      | some true => (match evSs C su env' mh' with
          | .exc _ _ _ => .stuck
          | o => o)
      | some false => .exc x env' mh'
      | none => .stuck)
    | o => o) D := o
  cases he : evSs C bd env mh with
  | next e m => rw [he] at o; exact o
  | brk e m => rw [he] at o; exact o
  | cont e m => rw [he] at o; exact o
  | ret r m => rw [he] at o; exact o
  | stuck => rw [he] at o; exact o.elim
  | exc y env' mh' =>
    rw [he] at o
    have o : SG J w H (match C.sub y.c c with
      | some true => (match evSs C su env' mh' with
          | .exc _ _ _ => .stuck
          | o => o)
      | some false => .exc y env' mh'
      | none => .stuck) D := o
    intro w' σ' cls d H' kk R' hx
    cases hsb : C.sub y.c c with
    | none => rw [hsb] at o; exact o.elim
    | some b =>
      have hcls := hx.1
      refine ⟨b, by rw [hcls]; exact hsub _ _ hsb, fun hbt a hn => ?_, fun hbf => ?_⟩
      · subst hbt
        rw [hsb] at o
        have o : SG J w H (match evSs C su env' mh' with
          | .exc _ _ _ => .stuck
          | o => o) D := o
        refine ⟨w', env', mh', R', ?_⟩
        generalize evSs C su env' mh' = so at o ⊢
        cases so with
        | next e m => exact fun w1 σ1 H1 fk r => o w1 _ H1 (kk.trans fk) r
        | brk e m => exact fun w1 σ1 H1 fk r => o w1 _ H1 (kk.trans fk) r
        | cont e m => exact fun w1 σ1 H1 fk r => o w1 _ H1 (kk.trans fk) r
        | ret r m => exact o
        | exc z e m => exact o.elim
        | stuck => exact o.elim
      · subst hbf
        rw [hsb] at o
        exact o w' σ' cls d H' kk R' hx
/-- isinstance(e, X), e the error that a suite holds -/
theorem me_isx {i c : Nat} {n cn : Str} {cv : Value} {p p2 p3 pos : Pos} (hX : ∀ a D, J.T.ex = some (a, .ref D, none) → (∃ y, D = J.T.ca y) → CallR X (.builtin "isinstance") (rIsE X.K D a))
    (hsub : ∀ y b, C.sub y c = some b → PySem.W.kitOne X.K (.ref (J.T.ca y)) cv = some b) (hcv : ∃ cV, PE X (.Name cn p3) (tC cV) ∧ ∀ u, RelV cV u → u = cv)
    (hN : X.N[i]? = some n) (hv : Vis X.env.scope n) (hd : (n == ("__debug__" : Str)) = false) (hcd : (n == ("__classdict__" : Str)) = false) (hg : Gl X "isinstance") (hm : X.mg "isinstance" = none) :
    PE X (.Call (.Name "isinstance" p) [.Name n p2, .Name cn p3] [] pos) (TEm J (evE C (.isx i c))) := by
  obtain ⟨cV, hcx, hcu⟩ := hcv
  have get : ∀ {σ H Q}, TEm J (evE C (.isx i c)) σ H Q → ∃ a y b, J.T.ex = some (a, .ref (J.T.ca y), none) ∧ σ[i]? = some (some (V.ref a)) ∧ C.sub y c = some b ∧ Q (.bl b) H := fun {σ H Q} ⟨w, env, mh, R, o⟩ => by
    have o : OG J.T (RvOk J.T) (fun c d H' => J.W c d σ H') w H (match env[i]? with
      | some (some (.xcp x none)) => ofB (C.sub x c) mh
      | _ => .stuck) Q := o
    split at o
    · rename_i y he
      obtain ⟨v, hs, a, cls, d, rfl, e1, e2, e3⟩ := R.e.ok i _ he
      unfold ofB at o
      split at o
      · rename_i b hb
        subst e2
        cases (show d = none from e3)
        exact ⟨a, y, b, e1, hs, hb, o.val R.h (.bl _)⟩
      · exact o.elim
    · exact o.elim
  cases hex : J.T.ex with
  | none => exact ⟨fun pins s σ H Q I h => by obtain ⟨a, y, b, e, _⟩ := get h; rw [hex] at e; cases e⟩
  | some t =>
    obtain ⟨a, cls, d⟩ := t
    by_cases hy : ∃ y, cls = .ref (J.T.ca y) ∧ d = none
    · obtain ⟨y, rfl, rfl⟩ := hy
      refine PE.weak (pe_callB (hX a _ hex ⟨y, rfl⟩) hg hm (by decide +kernel) (pa_cons (pe_var hN hv hd hcd) (pa_cons hcx pa_nil (star_of rfl)) (star_of rfl)) (by decide) (by decide) (star_of rfl) (star_any (es := [.Name cn p3]) rfl)) fun σ H Q h => ?_
      obtain ⟨a', y', b, e, hs, hb, q⟩ := get h
      rw [hex] at e
      injection e with e
      injection e with e1 e2
      subst e1
      injection e2 with e2 _
      refine ⟨_, hs, cV, cv, b, rfl, hcu, ?_, q⟩
      rw [e2]
      exact hsub _ _ hb
    · exact ⟨fun pins s σ H Q I h => by
        obtain ⟨a', y, b, e, _⟩ := get h
        rw [hex] at e
        cases e
        exact absurd ⟨y, rfl, rfl⟩ hy⟩
end
end Mn
end
section
set_option linter.all false
set_option autoImplicit false
set_option maxRecDepth 100000
/-! Mini: is this program's text that text? -/
namespace Mn
open PySem PySem.Spec PyProof.Rows L2

/-- the names of defs (how many parameters), of classes (own ones or built-in), of constants -/
structure Tab where
  fn : Nat → Option (Str × Nat)
  cl : Nat → Option (Str × Bool)
  gl : Nat → Option (Str × PyData)
structure Mc where
  tb : Tab
  N : List Str
  sc : Scope
  ow : Str → Bool
  calm : Bool
def visB (sc : Scope) (x : Str) : Bool := match sc.names.lookup x with
  | some .local => true
  | some .cell => true
  | some .free => true
  | _ => false
def locB (sc : Scope) (x : Str) : Bool := match sc.names.lookup x with
  | some .local => true
  | some .cell => true
  | _ => false
def lclB (sc : Scope) (x : Str) : Bool := match sc.names.lookup x with
  | some .local => true
  | _ => false
def glB (sc : Scope) (x : Str) : Bool := match sc.names.lookup x with
  | some .globalImplicit => true
  | _ => false
def odd (x : Str) : Bool := (x == ("__debug__" : Str)) || (x == ("__classdict__" : Str))
/-- a name is read -/
def nameB (m : Mc) (i : Nat) (x : Str) : Bool := decide (m.N[i]? = some x) && visB m.sc x && !odd x
/-- a name is set -/
def setB (m : Mc) (i : Nat) (x : Str) : Bool := decide (m.N[i]? = some x) && locB m.sc x && (m.ow x || lclB m.sc x) && !odd x
def scEq : PyData → PyData → Bool
  | .none, .none => true
  | .bool a, .bool b => a == b
  | .int a, .int b => decide (a = b)
  | .str a, .str b => decide (a = b)
  | _, _ => false
def cstB (d : PyData) (c : Const) : Bool := match d, c with
  | .none, .none => true
  | .bool a, .bool b => a == b
  | .int a, .int b => decide (a = b)
  | .str a, .str b => decide (a = b)
  | _, _ => false
def blkB (N : List Str) (sc scope : Scope) (own : List (Str × Nat)) : Bool :=
  decide (scope.kind = .function) && (scope.names.all fun y => decide (scope.names.lookup y.1 = some y.2)) && (own.all fun p => decide (N[p.2]? = some p.1)) &&
  (scope.names.all fun y => !decide (y.2 = .free) || decide (sc.names.lookup y.1 = some .cell) || decide (sc.names.lookup y.1 = some .free)) &&
  scope.names.all fun y => !(decide (y.2 = .local) || decide (y.2 = .cell)) || (own.map (·.1)).contains y.1 || !N.contains y.1
def ownS (N : List Str) (own : List Nat) : List (Str × Nat) := own.map fun i => (N.getD i Str.empty, i)
def Mc.blk (m : Mc) (scope : Scope) : Mc := { m with sc := relS scope m.sc, ow := fun x => scope.names.lookup x == some .cell }
/-- keys and values, one behind the other -/
def weave : List (Option Expr) → List Expr → Option (List Expr)
  | [], [] => some []
  | some k :: ks, v :: vs => (weave ks vs).map fun r => k :: v :: r
  | _, _ => none
mutual
def mtTg : Tg → Mc → Expr → Bool
  | .nm i, m, x => match x with
    | .Name n _ => setB m i n
    | _ => false
  | .nil, m, x => match x with
    | .Tuple [] _ _ => true
    | _ => false
  | .cons t ts, m, x => match x with
    | .Tuple (e :: es) _ _ => ts.seq && mtTg t m e && mtTgs ts m es && plainX e && es.all plainX
    | _ => false
def mtTgs : Tg → Mc → List Expr → Bool
  | .nil, _, [] => true
  | .cons t ts, m, e :: es => mtTg t m e && mtTgs ts m es && plainX e
  | _, _, _ => false
end
structure MtF where
  one : Mc → Expr → Bool
  andL : Mc → List Expr → Bool
  orL : Mc → List Expr → Bool
def MtF.of (one : Mc → Expr → Bool) : MtF := ⟨one, fun m l => match l with
    | [x] => one m x
    | _ => false, fun m l => match l with
    | [x] => one m x
    | _ => false⟩
def isYes : E → Bool
  | .cst (.bool true) => true
  | _ => false
mutual
def mtP : E → MtF
  | .var i => .of fun m x => match x with
    | .Name n _ => nameB m i n
    | _ => false
  | .cst d => .of fun m x => match x with
    | .Constant c _ _ => cstB d c
    | _ => false
  | .glb k d => .of fun m x => match x with
    | .Name n _ => glB m.sc n && (match m.tb.gl k with
      | some (n', d') => decide (n = n') && scEq d d'
      | none => false)
    | _ => false
  | .and_ a b => ⟨fun m x => match x with
    | .BoolOp .And (y :: z :: r) _ => (mtP a).one m y && (mtP b).andL m (z :: r)
    | _ => false, fun m l => match l with
    | [.BoolOp .And (y :: z :: r) _] => (mtP a).one m y && (mtP b).andL m (z :: r)
    | y :: z :: r => (mtP a).one m y && (mtP b).andL m (z :: r)
    | _ => false, fun m l => match l with
    | [.BoolOp .And (y :: z :: r) _] => (mtP a).one m y && (mtP b).andL m (z :: r)
    | _ => false⟩
  | .or_ a b => ⟨fun m x => match x with
    | .BoolOp .Or (y :: z :: r) _ => (mtP a).one m y && (mtP b).orL m (z :: r)
    | _ => false, fun m l => match l with
    | [.BoolOp .Or (y :: z :: r) _] => (mtP a).one m y && (mtP b).orL m (z :: r)
    | _ => false, fun m l => match l with
    | [.BoolOp .Or (y :: z :: r) _] => (mtP a).one m y && (mtP b).orL m (z :: r)
    | y :: z :: r => (mtP a).one m y && (mtP b).orL m (z :: r)
    | _ => false⟩
  | .not_ a => .of fun m x => match x with
    | .UnaryOp .Not y _ => (mtP a).one m y
    | _ => false
  | .cmp op a b => .of fun m x => match x with
    | .Compare y [op'] [z] _ => decide (op = op') && (mtP a).one m y && (mtP b).one m z && plainX z
    | _ => false
  | .chain op1 op2 a b c => .of fun m x => match x with
    | .Compare y [op1', op2'] [z, u] _ => decide (op1 = op1') && decide (op2 = op2') && (mtP a).one m y && (mtP b).one m z && (mtP c).one m u && plainX u
    | _ => false
  | .bin op a b => .of fun m x => match x with
    | .BinOp y op' z _ => decide (op = op') && (mtP a).one m y && (mtP b).one m z
    | _ => false
  | .cat a b => .of fun m x => match x with
    | .BinOp y .Add z _ => (mtP a).one m y && (mtP b).one m z
    | _ => false
  | .neg a => .of fun m x => match x with
    | .UnaryOp .USub y _ => (mtP a).one m y
    | _ => false
  | .ite c a b => .of fun m x => match x with
    | .IfExp y z u _ => (mtP c).one m y && (mtP a).one m z && (mtP b).one m u
    | _ => false
  | .tup es => .of fun m x => match x with
    | .Tuple xs _ _ => mtEs es m xs
    | _ => false
  | .lst es => .of fun m x => match x with
    | .List xs _ => mtEs es m xs
    | _ => false
  | .dsp es => .of fun m x => match x with
    | .Dict ks vs _ => (match weave ks vs with
      | some l => mtEs es m l && decide (ks.length ≤ 15)
      | none => false)
    | _ => false
  | .idx a b => .of fun m x => match x with
    | .Subscript y z _ => (mtP a).one m y && (mtP b).one m z && plainX z
    | _ => false
  | .slc lo hi a l h => .of fun m x => match x with
    | .Subscript y (.Slice l' h' none _) _ => (mtP a).one m y && (match l' with
      | none => !lo
      | some z => lo && (mtP l).one m z) && (match h' with
      | none => !hi
      | some z => hi && (mtP h).one m z)
    | _ => false
  | .isi a t => .of fun m x => match x with
    | .Call (.Name f _) [y, .Name n _] [] _ => decide (f = ("isinstance" : Str)) && !decide (t = .lt) && decide (n = (t.name : Str)) && glB m.sc f && glB m.sc n && (mtP a).one m y && plainX y
    | _ => false
  | .isx i c => .of fun m x => match x with
    | .Call (.Name f _) [.Name n _, .Name cn _] [] _ => decide (f = ("isinstance" : Str)) && nameB m i n && glB m.sc f && glB m.sc cn && (match m.tb.cl c with
      | some (cn', _) => decide (cn = cn')
      | none => false)
    | _ => false
  | .xat _ _ => .of fun _ _ => false
  | .blt b es => .of fun m x => match x with
    | .Call (.Name f _) (y :: ys) [] _ => decide (f = (b.id : Str)) && glB m.sc f && mtEs es m (y :: ys) && (y :: ys).all plainX && (!b.cool || m.calm)
    | _ => false
  | .mth k o es => .of fun m x => match x with
    | .Call (.Attribute y n apos) (z :: zs) [] cpos => decide (n = k.nm) && (mtP o).one m y && mtEs es m (z :: zs) && baseX y && (z :: zs).all plainX && decide ((z :: zs).length < 29) && (apos.endLine == cpos.line)
    | _ => false
  | .popA o es => .of fun m x => match x with
    | .Call (.Attribute y n apos) [z] [] cpos => decide (n = ("pop" : Str)) && (mtP o).one m y && mtEs es m [z] && baseX y && plainX z && (apos.endLine == cpos.line)
    | _ => false
  | .call f es => .of fun m x => match x with
    | .Call (.Name n _) (y :: ys) [] _ => m.calm && glB m.sc n && (match m.tb.fn f with
      | some (n', _) => decide (n = n')
      | none => false) && mtEs es m (y :: ys) && (y :: ys).all plainX
    | _ => false
  | .pcall f es => .of fun m x => match x with
    | .Call (.Name n _) (y :: ys) [] _ => m.calm && glB m.sc n && (match m.tb.fn f with
      | some (n', _) => decide (n = n')
      | none => false) && mtEs es m (y :: ys) && (y :: ys).all plainX
    | _ => false
  | .comp elt tg it c own => .of fun m x => match x with
    | .ListComp y [⟨xt, xi, ifs, as⟩] scope _ => m.calm && decide (as = 0) && blkB m.N m.sc scope (ownS m.N own) && mtTg tg (m.blk scope) xt && mtIt it m tg xt xi && (match ifs with
      | [] => isYes c
      | [z] => (mtP c).one (m.blk scope) z
      | _ => false) && (mtP elt).one (m.blk scope) y && (tg.slots.all fun j => own.contains j) && plainX xi
    | _ => false
def mtEs : Es → Mc → List Expr → Bool
  | .nil, _, xs => xs.isEmpty
  | .cons e es, m, xs => match xs with
    | x :: xs => (mtP e).one m x && mtEs es m xs && plainX x
    | [] => false
  | .star _ _, _, _ => false
def mtIt : It → Mc → Tg → Expr → Expr → Bool
  | .of e, m, _, _, xi => (mtP e).one m xi
  | .rng1 a, m, _, _, xi => match xi with
    | .Call (.Name f _) [y] [] _ => decide (f = ("range" : Str)) && glB m.sc f && (mtP a).one m y && plainX y
    | _ => false
  | .rng2 a b, m, _, _, xi => match xi with
    | .Call (.Name f _) [y, z] [] _ => decide (f = ("range" : Str)) && glB m.sc f && (mtP a).one m y && (mtP b).one m z && plainX y && plainX z
    | _ => false
  | .zip2 a b, m, tg, xt, xi => match xt, xi with
    | .Tuple _ _ _, .Call (.Name f _) [y, z] [] _ => tg.seq && decide (f = ("zip" : Str)) && glB m.sc f && (mtP a).one m y && (mtP b).one m z && plainX y && plainX z
    | _, _ => false
  | .zip3 a b c, m, tg, xt, xi => match xt, xi with
    | .Tuple _ _ _, .Call (.Name f _) [y, z, u] [] _ => tg.seq && decide (f = ("zip" : Str)) && glB m.sc f && (mtP a).one m y && (mtP b).one m z && (mtP c).one m u && plainX y && plainX z && plainX u
    | _, _ => false
  | .enum a, m, tg, xt, xi => match xt, xi with
    | .Tuple _ _ _, .Call (.Name f _) [y] [] _ => tg.seq && decide (f = ("enumerate" : Str)) && glB m.sc f && (mtP a).one m y && plainX y
    | _, _ => false
end
/-- the value of an assignment: a list comprehension whose store is swapped with its own, or none such -/
def isLC : Expr → Bool
  | .ListComp _ _ _ _ => true
  | _ => false
def noComp : Expr → Bool
  | .ListComp _ _ _ _ => false
  | .SetComp _ _ _ _ => false
  | .DictComp _ _ _ _ _ => false
  | _ => true
def noTup : Expr → Bool
  | .Tuple _ _ _ => false
  | _ => true
mutual
def mtS : S → Mc → Stmt → Bool
  | .expr e, m, s => match s with
    | .Expr x _ => (mtP e).one m x && noComp x
    | _ => false
  | .asg t e, m, s => match s with
    | .Assign [tx] x _ => mtTg t m tx && (mtP e).one m x && (match t with
      | .nm _ => true
      | _ => t.seq && noComp x && noTup x && m.calm)
    | _ => false
  | .asgO i e, m, s => match s with
    | .Assign [.Name n _] x _ => setB m i n && (mtP e).one m x && (isFresh e || isCall e)
    | _ => false
  | .asgH i e, m, s => match s with
    | .Assign [.Name n _] x _ => setB m i n && (mtP e).one m x && (isFresh e || isCall e)
    | _ => false
  | .app i e, m, s => match s with
    | .Expr (.Call (.Attribute (.Name n _) a apos) [v] [] cpos) _ => decide (a = ("append" : Str)) && nameB m i n && (mtP e).one m v && plainX v && (apos.endLine == cpos.line)
    | _ => false
  | .setI i k v, m, s => match s with
    | .Assign [.Subscript (.Name n _) kx _] vx _ => nameB m i n && (mtP k).one m kx && (mtP v).one m vx && plainX kx
    | _ => false
  | .aug i op e, m, s => match s with
    | .AugAssign (.Name n _) op' v _ => (decide (op = .Add) || decide (op = .Sub)) && decide (op = op') && setB m i n && (mtP e).one m v
    | _ => false
  | .ret e, m, s => match s with
    | .Return (some x) _ => (mtP e).one m x
    | _ => false
  | .retM e, m, s => match s with
    | .Return (some x) _ => (mtP e).one m x && (isFresh e || isCall e || !notVar e)
    | _ => false
  | .retN, _, s => match s with
    | .Return none _ => true
    | _ => false
  | .if_ c a b, m, s => match s with
    | .If x xs ys _ => (mtP c).one m x && mtSs a m xs && mtSs b m ys
    | _ => false
  | .for_ t it body, m, s => match s with
    | .For tx ix xs [] _ => m.calm && mtTg t m tx && mtIt it m t tx ix && mtSs body m xs && plainX ix
    | _ => false
  | .while_ _ c body, m, s => match s with
    | .While x xs [] _ => m.calm && (mtP c).one m x && mtSs body m xs
    | _ => false
  | .brk, _, s => match s with
    | .Break _ => true
    | _ => false
  | .cont, _, s => match s with
    | .Continue _ => true
    | _ => false
  | .pass, _, s => match s with
    | .Pass _ => true
    | _ => false
  | .raise c es, m, s => match es, s with
    | .nil, .Raise (some (.Call (.Name n _) [] [] _)) none _ => m.calm && glB m.sc n && (match m.tb.cl c with
      | some (n', own) => decide (n = n') && own
      | none => false)
    | _, _ => false
  | .try_ body c i su, m, s => match s with
    | .Try xs [.ExceptHandler (some (.Name n _)) nm (y :: ys) _] [] [] _ => m.calm && glB m.sc n && (match m.tb.cl c with
      | some (n', _) => decide (n = n')
      | none => false) && mtSs body m xs && mtSs su { m with calm := false } (y :: ys) && (match i, nm with
      | none, none => true
      | some k, some z => decide (m.N[k]? = some z) && lclB m.sc z
      | _, _ => false)
    | _ => false
  | .frz _, _, _ => false
  | .nv, _, _ => true
def mtSs : Ss → Mc → List Stmt → Bool
  | .nil, _, xs => xs.isEmpty
  | .cons s r, m, xs => match s with
    | .frz _ => mtSs r m xs
    | .nv => true
    | s => (match xs with
      | x :: xs => mtS s m x && mtSs r m xs
      | [] => false)
end
end Mn
end
section
set_option linter.all false
set_option autoImplicit false
set_option maxRecDepth 100000
/-! Mini: what is matched, does what the evaluator says: expressions. -/
namespace Mn
open PySem PySem.Spec PyProof.Rows L2

theorem vis_of {sc : Scope} {x : Str} (h : visB sc x = true) : Vis sc x := by
  unfold visB at h
  split at h
  · rename_i e; exact .inl e
  · rename_i e; exact .inr (.inl e)
  · rename_i e; exact .inr (.inr e)
  · cases h
theorem loc_of {sc : Scope} {x : Str} (h : locB sc x = true) : Loc sc x := by
  unfold locB at h
  split at h
  · rename_i e; exact .inl e
  · rename_i e; exact .inr e
  · cases h
theorem lcl_of {sc : Scope} {x : Str} (h : lclB sc x = true) : sc.names.lookup x = some .local := by
  unfold lclB at h
  split at h
  · rename_i e; exact e
  · cases h
theorem gl_of {sc : Scope} {x : Str} (h : glB sc x = true) : sc.names.lookup x = some .globalImplicit := by
  unfold glB at h
  split at h
  · rename_i e; exact e
  · cases h
theorem odd_of {x : Str} (h : odd x = false) : (x == ("__debug__" : Str)) = false ∧ (x == ("__classdict__" : Str)) = false := by
  unfold odd at h
  rw [Bool.or_eq_false_iff] at h
  exact h
/-- the class's value -/
def clsV (T : Stat) (c : Nat) (x : Str) (own : Bool) : Value := if own then .ref (T.ca c) else .type x.toString
/-- where code is matched: the names, what they mean -/
structure Cnd (m : Mc) (X : Cx) (J : Jd) (C : CallF) : Prop where
  sc : X.env.scope = m.sc
  N : X.N = m.N
  ow : ∀ x, m.ow x = true → X.fn x = true
  cm : X.calm = m.calm
  g : J.T.g = ⟨X.prog, X.w⟩
  u : X.A.units + 200 < cLine
  nd : X.N.Nodup
  fk : X.env.scope.kind = .function
  tk : Takes X J.W
  bl : ∀ b : Blt, X.mg b.id = none
  ty : ∀ t : Ty, t ≠ .lt → X.mg t.name = none
  bi : X.mg "isinstance" = none
  br : X.mg "range" = none
  bz : X.mg "zip" = none
  be : X.mg "enumerate" = none
  fn : ∀ f x n, m.tb.fn f = some (x, n) → X.calm = true → FnAt X J.T x n (C.call f)
  gl : ∀ k x d, m.tb.gl k = some (x, d) → ∃ v u, X.mg x = some u ∧ RelV v u ∧ (x == ("__debug__" : Str)) = false ∧ ∀ F H, Dv J.T.g F H v d
  cx : X.calm = true → J.T.ex = none
  cn : ∀ c x own, m.tb.cl c = some (x, own) → (x == ("__debug__" : Str)) = false ∧ ∃ cv : Value, (∃ v : V, RelV v cv ∧ ∀ u, RelV v u → u = cv) ∧ ((X.mg x = some cv) ∨ (X.mg x = none ∧ bootBuiltins x = some cv ∧ x ≠ "__name__")) ∧ (own = true → Kl0 X x (J.T.ca c)) ∧
    ∀ y b, C.sub y c = some b → PySem.W.exmOne X.K (.ref (J.T.ca y)) cv = some b ∧ PySem.W.kitOne X.K (.ref (J.T.ca y)) cv = some b
  xi : ∀ a D, J.T.ex = some (a, .ref D, none) → (∃ y, D = J.T.ca y) → CallR X (.builtin "isinstance") (rIsE X.K D a)
section
variable {m : Mc} {X : Cx} {J : Jd} {C : CallF}
theorem Cnd.gl' (k : Cnd m X J C) {x : Str} (h : glB m.sc x = true) : Gl X x := by
  show X.env.scope.names.lookup x = _
  rw [k.sc]; exact gl_of h
structure NameOk (X : Cx) (i : Nat) (x : Str) : Prop where
  at_ : X.N[i]? = some x
  vis : Vis X.env.scope x
  d : (x == ("__debug__" : Str)) = false
  cd : (x == ("__classdict__" : Str)) = false
theorem Cnd.name (k : Cnd m X J C) {i : Nat} {x : Str} (h : nameB m i x = true) : NameOk X i x := by
  unfold nameB at h
  simp only [Bool.and_eq_true, Bool.not_eq_true', decide_eq_true_eq] at h
  obtain ⟨⟨h1, h2⟩, h3⟩ := h
  exact ⟨by rw [k.N]; exact h1, by rw [k.sc]; exact vis_of h2, (odd_of h3).1, (odd_of h3).2⟩
structure SetOk (X : Cx) (i : Nat) (x : Str) : Prop where
  at_ : X.N[i]? = some x
  loc : Loc X.env.scope x
  fn : X.fn x = true ∨ X.env.scope.names.lookup x = some .local
  d : (x == ("__debug__" : Str)) = false
  cd : (x == ("__classdict__" : Str)) = false
theorem Cnd.set (k : Cnd m X J C) {i : Nat} {x : Str} (h : setB m i x = true) : SetOk X i x := by
  unfold setB at h
  simp only [Bool.and_eq_true, Bool.not_eq_true', decide_eq_true_eq, Bool.or_eq_true] at h
  obtain ⟨⟨⟨h1, h2⟩, h3⟩, h4⟩ := h
  refine ⟨by rw [k.N]; exact h1, by rw [k.sc]; exact loc_of h2, ?_, (odd_of h4).1, (odd_of h4).2⟩
  rcases h3 with h3 | h3
  · exact .inl (k.ow x h3)
  · exact .inr (by rw [k.sc]; exact lcl_of h3)
theorem blk_of {N : List Str} {sc scope : Scope} {own : List (Str × Nat)} (h : blkB N sc scope own = true) : BlkOk N sc scope own := by
  unfold blkB at h
  simp only [Bool.and_eq_true, decide_eq_true_eq, List.all_eq_true] at h
  obtain ⟨⟨⟨⟨h1, h2⟩, h3⟩, h4⟩, h5⟩ := h
  refine ⟨h1, h2, h3, fun y hy hf => ?_, fun y hy hl => ?_⟩
  · have := h4 y hy
    simp only [Bool.or_eq_true, Bool.not_eq_true', decide_eq_true_eq, decide_eq_false_iff_not] at this
    rcases this with (this | this) | this
    · exact absurd hf this
    · exact .inl this
    · exact .inr this
  · have := h5 y hy
    simp only [Bool.or_eq_true, Bool.not_eq_true', Bool.or_eq_false_iff, decide_eq_false_iff_not] at this
    rcases this with (this | this) | this
    · rcases hl with hl | hl
      · exact absurd hl this.1
      · exact absurd hl this.2
    · exact .inl (by simpa using this)
    · exact .inr (by simpa using this)
theorem ownS_snd {N : List Str} {own : List Nat} : (ownS N own).map (·.2) = own := by
  unfold ownS
  rw [List.map_map]
  induction own with
  | nil => rfl
  | cons a l ih => simp only [List.map_cons, ih]; rfl
theorem assign_plain {env : Env} {e : Expr} {es : List Expr} (h : plainX e = true) : assignEach (e :: es) env = (false, assign e env) :: assignEach es env := by cases e <;> first | rfl | cases h
theorem assign_len {env : Env} : ∀ {es : List Expr}, (assignEach es env).length = es.length
  | [] => rfl
  | e :: es => by cases e <;> (show (assignEach es env).length + 1 = es.length + 1; rw [assign_len])
theorem assign_find {env : Env} : ∀ {es : List Expr}, es.all plainX = true → (assignEach es env).findIdx? (·.1) = none
  | [], _ => rfl
  | e :: es, h => by
    rw [List.all_cons, Bool.and_eq_true] at h
    rw [assign_plain h.1, List.findIdx?_cons, assign_find h.2]
    rfl
mutual
theorem sd_tg : ∀ (t : Tg) (m : Mc) (X : Cx) (x : Expr), Cnd m X J C → (t.seq = true → X.calm = true) → mtTg t m x = true → PG X x (TGm J t)
  | .nm i, m, X, x, k, _, h => by
    unfold mtTg at h
    split at h
    · obtain ⟨a, b, c, _, _⟩ := k.set h
      exact mg_nm k.nd a b c
    · cases h
  | .nil, m, X, x, k, hc, h => by
    unfold mtTg at h
    split at h
    · exact mg_seq (hc rfl) mgs_nil rfl rfl rfl
    · cases h
  | .cons t ts, m, X, x, k, hc, h => by
    unfold mtTg at h
    split at h
    · rename_i e es _ _
      simp only [Bool.and_eq_true] at h
      obtain ⟨⟨⟨⟨h1, h2⟩, h3⟩, h4⟩, h5⟩ := h
      have hcc := hc h1
      have hl : es.length = ts.len := mtTgs_len ts m es h3 h1
      exact mg_seq hcc (mgs_cons (sd_tg t m X e k (fun _ => hcc) h2) (sd_tgs ts m X es k hcc h3) (by rw [assign_plain h4]; rfl)) h1 (by rw [assign_len]; show es.length + 1 = ts.len + 1; rw [hl]) (assign_find (by rw [List.all_cons, h4, h5]; rfl))
    · cases h
theorem sd_tgs : ∀ (t : Tg) (m : Mc) (X : Cx) (xs : List Expr), Cnd m X J C → X.calm = true → mtTgs t m xs = true → PGs X xs (TGsm J t)
  | .nil, m, X, [], k, _, h => mgs_nil
  | .nil, m, X, _ :: _, k, _, h => by cases h
  | .nm i, m, X, [], k, _, h => by cases h
  | .nm i, m, X, _ :: _, k, _, h => by cases h
  | .cons t ts, m, X, [], k, _, h => by cases h
  | .cons t ts, m, X, e :: es, k, hc, h => by
    unfold mtTgs at h
    simp only [Bool.and_eq_true] at h
    obtain ⟨⟨h1, h2⟩, h3⟩ := h
    exact mgs_cons (sd_tg t m X e k (fun _ => hc) h1) (sd_tgs ts m X es k hc h2) (by rw [assign_plain h3]; rfl)
theorem mtTgs_len : ∀ (t : Tg) (m : Mc) (xs : List Expr), mtTgs t m xs = true → t.seq = true → xs.length = t.len
  | .nil, m, [], h, _ => rfl
  | .nil, m, _ :: _, h, _ => by cases h
  | .nm i, m, [], h, _ => by cases h
  | .nm i, m, _ :: _, h, _ => by cases h
  | .cons t ts, m, [], h, _ => by cases h
  | .cons t ts, m, e :: es, h, hs => by
    unfold mtTgs at h
    simp only [Bool.and_eq_true] at h
    show es.length + 1 = ts.len + 1
    rw [mtTgs_len ts m es h.1.2 hs]
end
end
end Mn
end
section
set_option linter.all false
set_option autoImplicit false
set_option maxRecDepth 100000
/-! Mini: what is matched, does what the evaluator says: expressions. -/
namespace Mn
open PySem PySem.Spec PyProof.Rows L2

section
variable {m : Mc} {X : Cx} {J : Jd} {C : CallF}
theorem takes_nox {X : Cx} : Takes X (fun _ _ _ _ => False) := fun u s' ⟨_, _, _, _, _, _, _, _, _, _, _, _, _, _, _, _, h⟩ => h.elim
theorem Cnd.blk (k : Cnd m X J C) (hc : X.calm = true) {scope : Scope} (hk : scope.kind = .function) (s : Shared) (H : Hp) (Ca : Addr) (cl : List (Str × Addr)) (fp : List Addr) : Cnd (m.blk scope) (X.blk s H scope (compEnvC scope cl Ca X.env) fp) J.nox C where
  sc := by
    show relabel scope X.env = relS scope m.sc
    rw [← k.sc]
    rfl
  N := k.N
  ow := fun x h => h
  cm := k.cm
  g := k.g
  u := k.u
  nd := k.nd
  fk := hk
  tk := takes_nox
  bl := k.bl
  ty := k.ty
  bi := k.bi
  br := k.br
  bz := k.bz
  be := k.be
  fn := fun f x n h hcc => let F := k.fn f x n h hc; ⟨F.fn, F.db, F.len⟩
  gl := k.gl
  cx := k.cx
  cn := fun c x own h => by
    obtain ⟨h1, cv, h2, h3, h4, h5⟩ := k.cn c x own h
    exact ⟨h1, cv, h2, h3, fun q => let K := h4 q; ⟨K.ex, K.gl, K.kp, K.sb, K.ty, K.db⟩, h5⟩
  xi := fun a D e => by rw [show J.nox.T.ex = J.T.ex from rfl, k.cx hc] at e; cases e
/-- an expression does what the evaluator says -/
structure EOk (X : Cx) (J : Jd) (C : CallF) (e : E) (x : Expr) : Prop where
  pe : PE X x (TEm J (evE C e))
  pt : PT X x (TTm J (evT C e))
  po : (isFresh e || isCall e) = true → PE X x (TEo J C e)
  as : ∀ (i : Nat) (y : Str) (p pos : Pos), SetOk X i y → AsgOk X (.Name y p) x pos (TEm J (evE C e)) (gName i) ∧ ((isFresh e || isCall e) = true → AsgOk X (.Name y p) x pos (TEo J C e) (gName i))
theorem swap_no {x : Expr} {t : Option Expr} {l : Nat} {env : Env} (h : noComp x = true) : swapsWith x t l env = pure false := by cases x <;> first | rfl | cases h
theorem asg_plain {x : Expr} {te : TE} (nd : X.N.Nodup) (hx : noComp x = true) (pe : PE X x te) (i : Nat) (y : Str) (p pos : Pos) (so : SetOk X i y) : AsgOk X (.Name y p) x pos te (gName i) := ps_set nd so.at_ so.loc pe (swap_no hx) so.fn
/-- by its head, its truth is its value's -/
def valX : Expr → Bool
  | .UnaryOp .Not _ _ => false
  | .BoolOp _ _ _ => false
  | .IfExp _ _ _ _ => false
  | .Compare _ _ _ _ => false
  | _ => true
theorem isTrue_val {x : Expr} {env : Env} (h : valX x = true) : ∀ whole, isTrue x env whole = (do let v ← whole; standAt x.pos; holding [v] (truthy v)) := by
  intro whole
  cases x <;> first | rfl | cases h | skip
  rename_i op y p
  cases op <;> first | rfl | cases h
theorem EOk.plain {e : E} {x : Expr} (nd : X.N.Nodup) (hx : noComp x = true) (hf : (isFresh e || isCall e) = false) (pe : PE X x (TEm J (evE C e))) (pt : PT X x (TTm J (evT C e))) : EOk X J C e x :=
  ⟨pe, pt, (fun h => absurd h (by rw [hf]; simp)), fun i y p pos so => ⟨asg_plain nd hx pe i y p pos so, (fun h => absurd h (by rw [hf]; simp))⟩⟩
theorem EOk.val {e : E} {x : Expr} (nd : X.N.Nodup) (hx : noComp x = true) (hv : valX x = true) (hf : (isFresh e || isCall e) = false) (hm : (evP C e).2 = (tv (evP C e).1).2) (pe : PE X x (TEm J (evE C e))) : EOk X J C e x :=
  .plain nd hx hf pe (mt_val pe hm (isTrue_val hv))
theorem TEo_f {e : E} (h : isFresh e = true) : TEo J C e = TEf J (evE C e) := if_pos h
theorem TEo_c {e : E} (h : isFresh e = false) : TEo J C e = TEc J (evE C e) := if_neg (by rw [h]; simp)
theorem EOk.fresh {e : E} {x : Expr} (nd : X.N.Nodup) (hx : noComp x = true) (hv : valX x = true) (hf : isFresh e = true) (hm : (evP C e).2 = (tv (evP C e).1).2) (pf : PE X x (TEf J (evE C e))) : EOk X J C e x := by
  have pe : PE X x (TEm J (evE C e)) := PE.weak pf fun _ _ _ h => TEf.tem h
  have po : PE X x (TEo J C e) := by rw [TEo_f hf]; exact pf
  exact ⟨pe, mt_val pe hm (isTrue_val hv), fun _ => po, fun i y p pos so => ⟨asg_plain nd hx pe i y p pos so, fun _ => asg_plain nd hx po i y p pos so⟩⟩
theorem EOk.call {e : E} {x : Expr} (nd : X.N.Nodup) (hx : noComp x = true) (hv : valX x = true) (hf : isFresh e = false) (hm : (evP C e).2 = (tv (evP C e).1).2) (pf : PE X x (TEc J (evE C e))) : EOk X J C e x := by
  have pe : PE X x (TEm J (evE C e)) := PE.weak pf fun _ _ _ h => TEc.tem h
  have po : PE X x (TEo J C e) := by rw [TEo_c hf]; exact pf
  exact ⟨pe, mt_val pe hm (isTrue_val hv), fun _ => po, fun i y p pos so => ⟨asg_plain nd hx pe i y p pos so, fun _ => asg_plain nd hx po i y p pos so⟩⟩
/-- a chain of and, of or -/
structure AOk (X : Cx) (J : Jd) (C : CallF) (op : BoolOp) (e : E) (xs : List Expr) : Prop where
  pe : ∀ pos, PE X (.BoolOp op xs pos) (TEm J (evE C e))
  pw : ∀ pos, PW X (.BoolOp op xs pos) (TTm J (evT C e))
theorem AOk.one {op : BoolOp} {e : E} {x : Expr} (h : EOk X J C e x) : AOk X J C op e [x] := ⟨fun pos => pe_one h.pe, fun pos => by cases op; exact pw_and1 h.pt; exact pw_or1 h.pt⟩
theorem cst_ok {d : PyData} {c : Const} {j : Nat} {pos : Pos} (h : cstB d c = true) : PE X (.Constant c j pos) (TEm J (evE C (.cst d))) := by
  unfold cstB at h
  split at h
  · exact me_none
  · have := eq_of_beq h; subst this; exact me_bool
  · have := of_decide_eq_true h; subst this; exact me_int
  · have := of_decide_eq_true h; subst this; exact me_str
  · cases h
theorem mt_cst {d : PyData} {x : Expr} (ha : PE X x (TEm J (evE C (.cst d)))) (he : ∀ whole, isTrue x X.env whole = (do let v ← whole; standAt x.pos; holding [v] (truthy v))) : PT X x (TTm J (evT C (.cst d))) := by
  refine mt_val ha ?_ he
  funext env mh
  rfl
theorem scEq_eq {a b : PyData} (h : scEq a b = true) : a = b := by
  unfold scEq at h
  split at h
  · rfl
  · rw [eq_of_beq h]
  · rw [of_decide_eq_true h]
  · rw [of_decide_eq_true h]
  · cases h
theorem glb_ok {k : Nat} {d : PyData} {n : Str} {pos : Pos} (K : Cnd m X J C) (hg : glB m.sc n = true) (h : (match m.tb.gl k with
      | some (n', d') => decide (n = n') && scEq d d'
      | none => false) = true) : PE X (.Name n pos) (TEm J (evE C (.glb k d))) := by
  split at h
  · rename_i n' d' e
    rw [Bool.and_eq_true] at h
    obtain ⟨h1, h2⟩ := h
    have := of_decide_eq_true h1; subst this
    have := scEq_eq h2; subst this
    obtain ⟨v, u, hm, r, hd, hv⟩ := K.gl k n d e
    exact PE.weak (pe_glob (K.gl' hg) hm r hd) fun σ H Q ⟨w, env, mh, R, o⟩ => o.val R.h (hv _ _)
  · cases h
theorem fn_match {f : Nat} {n : Str} (h : (match m.tb.fn f with
      | some (n', _) => decide (n = n')
      | none => false) = true) : ∃ k, m.tb.fn f = some (n, k) := by
  split at h
  · rename_i n' k e
    have := of_decide_eq_true h; subst this
    exact ⟨k, e⟩
  · cases h
theorem cl_match {c : Nat} {n : Str} (h : (match m.tb.cl c with
      | some (n', _) => decide (n = n')
      | none => false) = true) : ∃ own, m.tb.cl c = some (n, own) := by
  split at h
  · rename_i n' k e
    have := of_decide_eq_true h; subst this
    exact ⟨k, e⟩
  · cases h
end
end Mn
end
section
set_option linter.all false
set_option autoImplicit false
set_option maxRecDepth 100000
/-! Mini: dict displays; what is matched, does what the evaluator says: expressions. -/
namespace Mn
open PySem PySem.Spec PyProof.Rows L2

theorem OG.bindAt {T : Stat} {α β γ δ : Type} {rel : Wd → Hp → β → α → Prop} {rel' : Wd → Hp → δ → γ → Prop} {W : XK} {w w0 : Wd} {H H0 : Hp} {o : Out α} {k : α → MH → Out γ} {Q : δ → Hp → Prop} (x : Ext w0 H0 w H) (h : OG T rel' W w0 H0 (o.bind k) Q) :
    OG T rel W w H o (fun b H1 => ∃ w1 a mh1, Ext w H w1 H1 ∧ RelH T w1 mh1 H1 ∧ rel w1 H1 b a ∧ OG T rel' W w0 H0 (k a mh1) Q) := by
  cases o with
  | ok a mh => exact fun w' b H' x r q => ⟨w', a, mh, x, r, q, h⟩
  | exc y mh => exact fun w' c d H' x' r q => h w' c d H' (x.trans x') r q
  | stuck => exact h
def flat : List (V × V) → List V
  | [] => []
  | (k, v) :: r => k :: v :: flat r
section
variable {m : Mc} {X : Cx} {J : Jd} {C : CallF}
theorem putAll_of {g : Pw} {F : Addr → Prop} {H : Hp} : ∀ {ps : List (V × V)} {ds : List PyData} {acc r : List (PyData × PyData)} {accV : List (Key × V)}, DvA g F H (flat ps) ds → putAll ds acc = some r → DvK g F H accV acc →
    ∃ kvs : List (Key × V), ps = kvs.map (fun kv => (kV kv.1, kv.2)) ∧ DvK g F H (mergeK accV kvs) r ∧ 2 * kvs.length = ds.length
  | [], _, acc, r, accV, .nil, e, q => by
    cases (Option.some.inj (show some acc = some r from e))
    exact ⟨[], rfl, q, rfl⟩
  | (k, v) :: ps, _, acc, r, accV, .cons (d := dk) rk (.cons (d := dv) (ds := ds) rv t), e, q => by
    have e : (if isKey1 dk then putAll ds (dput acc dk dv) else none) = some r := e
    split at e
    · rename_i hk
      obtain ⟨key, rfl⟩ := isKey1_of hk
      have ek := keyV (.inl rk)
      subst ek
      obtain ⟨kvs, e1, e2, e3⟩ := putAll_of t e (dvK_put key rv q)
      refine ⟨(key, v) :: kvs, by rw [e1]; rfl, e2, ?_⟩
      simp only [List.length_cons]
      omega
    · cases e
structure PsOk (X : Cx) (J : Jd) (C : CallF) (es : Es) (ks : List (Option Expr)) (vs : List Expr) : Prop where
  ok : ∃ trs, (∀ pos, PPs X pos ks vs trs) ∧ ∀ σ H (Q' : List (V × V) → Hp → Prop), TDm J (evEs C es) σ H (fun zs H' => ∀ ps, flat ps = zs → Q' ps H') → tPairs trs σ H Q'
theorem PsOk.nil : PsOk X J C .nil [] [] := ⟨[], fun _ => pps_nil, fun σ H Q' ⟨w, env, mh, R, o⟩ => (OG.now (rel := relDs J.T.g) o R.h DvA.nil : ∀ ps, flat ps = [] → Q' ps H) [] rfl⟩
theorem PsOk.cons {k v : E} {es : Es} {xk xv : Expr} {ks : List (Option Expr)} {vs : List Expr} (hk : PE X xk (TEm J (evE C k))) (hv : PE X xv (TEm J (evE C v))) (h : PsOk X J C es ks vs) : PsOk X J C (.cons k (.cons v es)) (some xk :: ks) (xv :: vs) := by
  obtain ⟨trs, h1, h2⟩ := h.ok
  refine ⟨(TEm J (evE C k), TEm J (evE C v)) :: trs, fun pos => pps_cons hk hv (h1 pos), fun σ H Q' ⟨w, env, mh, R, o⟩ => ?_⟩
  have o : OG J.T (relDs J.T.g) (fun c d H' => J.W c d σ H') w H (((evP C k).1 env mh).bind fun x mh => match x with
      | .dat d => (evEs C (.cons v es) env mh).bind fun ds mh => .ok (d :: ds) mh
      | _ => .stuck) (fun zs H' => ∀ ps, flat ps = zs → Q' ps H') := o
  refine ⟨w, env, mh, R, (OG.bind (rel := RvOk J.T) o).mono fun x H1 ⟨w1, rv, mh1, _, x1, R1, r1, o1⟩ => ?_⟩
  cases rv with
  | dat d =>
    have o1 : OG J.T (relDs J.T.g) (fun c d H' => J.W c d σ H') w1 H1 ((((evP C v).1 env mh1).bind fun x mh => match x with
        | .dat d => (evEs C es env mh).bind fun ds mh => .ok (d :: ds) mh
        | _ => .stuck).bind fun ds mh => .ok (d :: ds) mh) (fun zs H' => ∀ ps, flat ps = zs → Q' ps H') := o1
    rw [Out.bind_assoc] at o1
    refine ⟨w1, env, mh1, R.ext x1 R1, (OG.bind (rel := RvOk J.T) o1).mono fun y H2 ⟨w2, ru, mh2, _, x2, R2, r2, o2⟩ => ?_⟩
    cases ru with
    | dat e =>
      have o2 : OG J.T (relDs J.T.g) (fun c d H' => J.W c d σ H') w2 H2 (((evEs C es env mh2).bind fun ds mh => .ok (e :: ds) mh).bind fun ds mh => .ok (d :: ds) mh) (fun zs H' => ∀ ps, flat ps = zs → Q' ps H') := o2
      rw [Out.bind_assoc] at o2
      refine h2 σ H2 (fun ps H3 => Q' ((x, y) :: ps) H3) ⟨w2, env, mh2, (R.ext x1 R1).ext x2 R2, (OG.bind (rel := relDs J.T.g) o2).mono fun zs H3 ⟨w3, ds, mh3, _, x3, R3, r3, o3⟩ ps ep => ?_⟩
      exact OG.now (rel := relDs J.T.g) o3 R3 (DvA.cons (x3.dv (x2.dv r1)) (DvA.cons (x3.dv r2) r3)) ((x, y) :: ps) (by rw [← ep]; rfl)
    | _ => exact o2.elim
  | _ => exact o1.elim
theorem mf_dsp {es : Es} {ks : List (Option Expr)} {vs : List Expr} {pos : Pos} (h : PsOk X J C es ks vs) (h0 : ks ≠ []) (hall : ks.all (·.isSome) = true) (hl : ks.length = vs.length) (h15 : ks.length ≤ 15) : PE X (.Dict ks vs pos) (TEf J (evE C (.dsp es))) := by
  obtain ⟨trs, h1, h2⟩ := h.ok
  have run : ∀ σ H Q, TEf J (evE C (.dsp es)) σ H Q → tDisp trs σ H Q := fun σ H Q ⟨w, env, mh, R, o⟩ => by
    have o : OG J.T (relF J.T H) (fun c d H' => J.W c d σ H') w H ((evEs C es env mh).bind fun ds mh => ofD (dspD ds) mh) Q := o
    intro p hp
    have hC : p ∉ w.cs := fun z => by obtain ⟨o, e⟩ := R.h.thC p z; rw [hp] at e; cases e
    have hF : ¬ w.F p := fun z => by obtain ⟨o, e⟩ := R.h.thF p z; rw [hp] at e; cases e
    refine h2 σ (upd H p (.dK [])) _ ⟨w, env, mh, R.lay hp, (OG.bindAt (w := w) (H := upd H p (.dK [])) (rel := relDs J.T.g) (Ext.lay hp) o).mono fun zs H2 ⟨w1, ds, mh1, x1, R1, r1, o1⟩ ps ep => ?_⟩
    subst ep
    have h1p : H2 p = some (.dK []) := x1.there upd_same hC
    refine ⟨h1p, ?_⟩
    unfold ofD at o1
    split at o1
    · rename_i d hd
      unfold dspD at hd
      split at hd
      · rename_i h30
        have h30 := of_decide_eq_true h30
        obtain ⟨r, hr, rfl⟩ := Option.map_eq_some_iff.mp hd
        obtain ⟨kvs, e1, e2, e3⟩ := putAll_of r1 hr .nil
        have hC1 := x1.nc (o := .dK []) upd_same hC
        have hF1 := x1.nF (o := .dK []) upd_same hC hF
        refine ⟨kvs, e1, by omega, ?_⟩
        have xx : Ext w H w1 H2 := (Ext.lay (w := w) (o := .dK []) hp).trans x1
        exact o1 w1 (.ref p) _ (xx.over hp) (R1.over hC1 hF1) ⟨p, _, rfl, rfl, hp, hC1, hF1, .inl ⟨_, upd_same, e2.over hF1⟩⟩
      · cases hd
    · exact o1.elim
  cases ks with
  | nil => exact absurd rfl h0
  | cons k ks => exact PE.weak (pe_disp (h1 pos) hall hl (by simp) h15) run
theorem mf_dsp0 {pos : Pos} : PE X (.Dict [] [] pos) (TEf J (evE C (.dsp .nil))) :=
  PE.weak pe_dnewK fun σ H Q ⟨w, env, mh, R, o⟩ p hp => NewF.fresh (T := J.T) (d := .dict []) (mh := mh) o R.h (fun _ h => h) (.dK p [] [] hp .nil)
/-- by its one form -/
abbrev E3 (m : Mc) (X : Cx) (J : Jd) (C : CallF) (e : E) : Prop := (∀ x, (mtP e).one m x = true → EOk X J C e x) ∧ (∀ xs, (mtP e).andL m xs = true → AOk X J C .And e xs) ∧ ∀ xs, (mtP e).orL m xs = true → AOk X J C .Or e xs
theorem E3.of {e : E} {f : Mc → Expr → Bool} (hf : mtP e = MtF.of f) (h : ∀ x, f m x = true → EOk X J C e x) : E3 m X J C e := by
  unfold E3
  rw [hf]
  refine ⟨h, fun xs hx => ?_, fun xs hx => ?_⟩
  · have hx : (match (generalizing := false) xs with
      | [x] => f m x
      | _ => false) = true := hx
    split at hx
    · exact .one (h _ hx)
    · cases hx
  · have hx : (match (generalizing := false) xs with
      | [x] => f m x
      | _ => false) = true := hx
    split at hx
    · exact .one (h _ hx)
    · cases hx
theorem weave_ok : ∀ {ks : List (Option Expr)} {vs l : List Expr}, weave ks vs = some l → ks.all (·.isSome) = true ∧ ks.length = vs.length ∧ l.length = 2 * ks.length
  | [], [], l, h => by cases (Option.some.inj (show some [] = some l from h)); exact ⟨rfl, rfl, rfl⟩
  | [], _ :: _, l, h => by cases h
  | none :: ks, _, l, h => by cases h
  | some k :: ks, [], l, h => by cases h
  | some k :: ks, v :: vs, l, h => by
    obtain ⟨r, h1, rfl⟩ := Option.map_eq_some_iff.mp (show (weave ks vs).map (fun r => k :: v :: r) = some l from h)
    obtain ⟨a, b, c⟩ := weave_ok h1
    refine ⟨by simpa using a, by simp [b], by simp only [List.length_cons]; omega⟩
theorem plain_dict {es : Es} {ks : List (Option Expr)} {vs : List Expr} {pos : Pos} : True := trivial
mutual
theorem sdE : ∀ (e : E) (m : Mc) (X : Cx) (J : Jd), Cnd m X J C → E3 m X J C e
  | .var i, m, X, J, k => E3.of rfl fun x h => by
    split at h
    · obtain ⟨a, b, c, d⟩ := k.name h
      exact .val k.nd rfl rfl rfl rfl (me_var a b c d)
    · cases h
  | .cst d, m, X, J, k => E3.of rfl fun x h => by
    split at h
    · have p := cst_ok (X := X) (J := J) (C := C) (j := ‹_›) (pos := ‹_›) h
      exact .plain k.nd rfl rfl p (mt_cst p (isTrue_val rfl))
    · cases h
  | .glb g d, m, X, J, k => E3.of rfl fun x h => by
    split at h
    · rw [Bool.and_eq_true] at h
      exact .val k.nd rfl rfl rfl rfl (glb_ok k h.1 h.2)
    · cases h
  | .and_ a b, m, X, J, k => by
    have A := sdE a m X J k
    have B := sdE b m X J k
    have core : ∀ {y z : Expr} {r : List Expr}, ((mtP a).one m y && (mtP b).andL m (z :: r)) = true → AOk X J C .And (.and_ a b) (y :: z :: r) := fun {y z r} h => by
      rw [Bool.and_eq_true] at h
      have ha := A.1 _ h.1
      have hb := B.2.1 _ h.2
      exact ⟨fun pos => me_and ha.pe (hb.pe pos), fun pos => mw_and ha.pt (hb.pw pos)⟩
    have one : ∀ x, (mtP (.and_ a b)).one m x = true → EOk X J C (.and_ a b) x := fun x h => by
      have h : (match (generalizing := false) x with
        | .BoolOp .And (y :: z :: r) _ => (mtP a).one m y && (mtP b).andL m (z :: r)
        | _ => false) = true := h
      split at h
      · exact .plain k.nd rfl rfl ((core h).pe _) ((core h).pw _).pt
      · cases h
    refine ⟨one, fun xs h => ?_, fun xs h => ?_⟩
    · have h : (match (generalizing := false) xs with
        | [.BoolOp .And (y :: z :: r) _] => (mtP a).one m y && (mtP b).andL m (z :: r)
        | y :: z :: r => (mtP a).one m y && (mtP b).andL m (z :: r)
        | _ => false) = true := h
      split at h
      · exact .one (one _ h)
      · exact core h
      · cases h
    · have h : (match (generalizing := false) xs with
        | [.BoolOp .And (y :: z :: r) _] => (mtP a).one m y && (mtP b).andL m (z :: r)
        | _ => false) = true := h
      split at h
      · exact .one (one _ h)
      · cases h
  | .or_ a b, m, X, J, k => by
    have A := sdE a m X J k
    have B := sdE b m X J k
    have core : ∀ {y z : Expr} {r : List Expr}, ((mtP a).one m y && (mtP b).orL m (z :: r)) = true → AOk X J C .Or (.or_ a b) (y :: z :: r) := fun {y z r} h => by
      rw [Bool.and_eq_true] at h
      have ha := A.1 _ h.1
      have hb := B.2.2 _ h.2
      exact ⟨fun pos => me_or ha.pe (hb.pe pos), fun pos => mw_or ha.pt (hb.pw pos)⟩
    have one : ∀ x, (mtP (.or_ a b)).one m x = true → EOk X J C (.or_ a b) x := fun x h => by
      have h : (match (generalizing := false) x with
        | .BoolOp .Or (y :: z :: r) _ => (mtP a).one m y && (mtP b).orL m (z :: r)
        | _ => false) = true := h
      split at h
      · exact .plain k.nd rfl rfl ((core h).pe _) ((core h).pw _).pt
      · cases h
    refine ⟨one, fun xs h => ?_, fun xs h => ?_⟩
    · have h : (match (generalizing := false) xs with
        | [.BoolOp .Or (y :: z :: r) _] => (mtP a).one m y && (mtP b).orL m (z :: r)
        | _ => false) = true := h
      split at h
      · exact .one (one _ h)
      · cases h
    · have h : (match (generalizing := false) xs with
        | [.BoolOp .Or (y :: z :: r) _] => (mtP a).one m y && (mtP b).orL m (z :: r)
        | y :: z :: r => (mtP a).one m y && (mtP b).orL m (z :: r)
        | _ => false) = true := h
      split at h
      · exact .one (one _ h)
      · exact core h
      · cases h
  | .not_ a, m, X, J, k => E3.of rfl fun x h => by
    have A := sdE a m X J k
    split at h
    · have ha := A.1 _ h
      exact .plain k.nd rfl rfl (me_not ha.pe) (mt_not ha.pt)
    · cases h
  | .cmp op a b, m, X, J, k => E3.of rfl fun x h => by
    have A := sdE a m X J k
    have B := sdE b m X J k
    split at h
    · simp only [Bool.and_eq_true, decide_eq_true_eq] at h
      obtain ⟨⟨⟨rfl, h1⟩, h2⟩, h3⟩ := h
      exact .plain k.nd rfl rfl (me_cmp k.g k.u (A.1 _ h1).pe (B.1 _ h2).pe h3) (mt_cmp k.g k.u (A.1 _ h1).pe (B.1 _ h2).pe h3)
    · cases h
  | .chain op1 op2 a b c, m, X, J, k => E3.of rfl fun x h => by
    have A := sdE a m X J k
    have B := sdE b m X J k
    have D := sdE c m X J k
    split at h
    · simp only [Bool.and_eq_true, decide_eq_true_eq] at h
      obtain ⟨⟨⟨⟨⟨rfl, rfl⟩, h1⟩, h2⟩, h3⟩, h4⟩ := h
      exact .plain k.nd rfl rfl (me_chain k.g k.u (A.1 _ h1).pe (B.1 _ h2).pe (D.1 _ h3).pe h4) (mt_chain k.g k.u (A.1 _ h1).pe (B.1 _ h2).pe (D.1 _ h3).pe h4)
    · cases h
  | .bin op a b, m, X, J, k => E3.of rfl fun x h => by
    have A := sdE a m X J k
    have B := sdE b m X J k
    split at h
    · simp only [Bool.and_eq_true, decide_eq_true_eq] at h
      obtain ⟨⟨rfl, h1⟩, h2⟩ := h
      exact .val k.nd rfl rfl rfl rfl (me_bin (A.1 _ h1).pe (B.1 _ h2).pe k.g)
    · cases h
  | .cat a b, m, X, J, k => E3.of rfl fun x h => by
    have A := sdE a m X J k
    have B := sdE b m X J k
    split at h
    · simp only [Bool.and_eq_true] at h
      exact .fresh k.nd rfl rfl rfl rfl (mf_cat (A.1 _ h.1).pe (B.1 _ h.2).pe)
    · cases h
  | .neg a, m, X, J, k => E3.of rfl fun x h => by
    have A := sdE a m X J k
    split at h
    · exact .val k.nd rfl rfl rfl rfl (me_neg (A.1 _ h).pe)
    · cases h
  | .ite c a b, m, X, J, k => E3.of rfl fun x h => by
    have A := sdE a m X J k
    have B := sdE b m X J k
    have D := sdE c m X J k
    split at h
    · simp only [Bool.and_eq_true] at h
      obtain ⟨⟨h1, h2⟩, h3⟩ := h
      exact .plain k.nd rfl rfl (me_ite (D.1 _ h1).pt (A.1 _ h2).pe (B.1 _ h3).pe) (mt_ite (D.1 _ h1).pt (A.1 _ h2).pt (B.1 _ h3).pt)
    · cases h
  | .tup es, m, X, J, k => E3.of rfl fun x h => by
    have A := sdEs es m X J k
    split at h
    · exact .val k.nd rfl rfl rfl rfl (me_tup (A _ h).1)
    · cases h
  | .lst es, m, X, J, k => E3.of rfl fun x h => by
    have A := sdEs es m X J k
    split at h
    · exact .fresh k.nd rfl rfl rfl rfl (mf_lst (A _ h).1)
    · cases h
  | .dsp es, m, X, J, k => E3.of rfl fun x h => by
    have P := sdPs es m X J k
    split at h
    · rename_i ks vs pos
      split at h
      · rename_i l hl
        simp only [Bool.and_eq_true, decide_eq_true_eq] at h
        obtain ⟨w1, w2, w3⟩ := weave_ok hl
        cases ks with
        | nil =>
          cases vs with
          | cons _ _ => cases w2
          | nil =>
            cases (Option.some.inj (show some [] = some l from hl))
            have e : es = .nil := by
              cases es with
              | nil => rfl
              | cons _ _ => cases h.1
              | star _ _ => cases h.1
            subst e
            exact .fresh k.nd rfl rfl rfl rfl mf_dsp0
        | cons x ks => exact .fresh k.nd rfl rfl rfl rfl (mf_dsp (P _ _ _ hl h.1) (by simp) w1 w2 h.2)
      · cases h
    · cases h
  | .idx a b, m, X, J, k => E3.of rfl fun x h => by
    have A := sdE a m X J k
    have B := sdE b m X J k
    split at h
    · simp only [Bool.and_eq_true] at h
      obtain ⟨⟨h1, h2⟩, h3⟩ := h
      exact .val k.nd rfl rfl rfl rfl (me_idx k.g k.u (A.1 _ h1).pe (B.1 _ h2).pe h3)
    · cases h
  | .slc lo hi a l hh, m, X, J, k => E3.of rfl fun x h => by
    have A := sdE a m X J k
    have L := sdE l m X J k
    have U := sdE hh m X J k
    split at h
    · rename_i y l' h' p2 pos
      simp only [Bool.and_eq_true] at h
      obtain ⟨⟨h1, h2⟩, h3⟩ := h
      have hl : ∃ z, l' = optX lo z ∧ (lo = true → PE X z (TEm J (evE C l))) := by
        cases l' with
        | none => exact ⟨y, by simp at h2; subst h2; rfl, fun q => by simp at h2; rw [h2] at q; cases q⟩
        | some z => simp only [Bool.and_eq_true] at h2; obtain ⟨q, h2⟩ := h2; subst q; exact ⟨z, rfl, fun _ => (L.1 _ h2).pe⟩
      have hu : ∃ z, h' = optX hi z ∧ (hi = true → PE X z (TEm J (evE C hh))) := by
        cases h' with
        | none => exact ⟨y, by simp at h3; subst h3; rfl, fun q => by simp at h3; rw [h3] at q; cases q⟩
        | some z => simp only [Bool.and_eq_true] at h3; obtain ⟨q, h3⟩ := h3; subst q; exact ⟨z, rfl, fun _ => (U.1 _ h3).pe⟩
      obtain ⟨z1, rfl, q1⟩ := hl
      obtain ⟨z2, rfl, q2⟩ := hu
      exact .val k.nd rfl rfl rfl rfl (me_slc (A.1 _ h1).pe q1 q2)
    · cases h
  | .isi a t, m, X, J, k => E3.of rfl fun x h => by
    have A := sdE a m X J k
    split at h
    · simp only [Bool.and_eq_true, decide_eq_true_eq, Bool.not_eq_true', decide_eq_false_iff_not] at h
      obtain ⟨⟨⟨⟨⟨⟨rfl, h2⟩, rfl⟩, h4⟩, h5⟩, h6⟩, h7⟩ := h
      exact .val k.nd rfl rfl rfl rfl (me_isi k.g h2 (k.gl' h4) k.bi (k.gl' h5) (k.ty t h2) (A.1 _ h6).pe h7)
    · cases h
  | .isx i c, m, X, J, k => E3.of rfl fun x h => by
    split at h
    · simp only [Bool.and_eq_true, decide_eq_true_eq] at h
      obtain ⟨⟨⟨⟨rfl, h2⟩, h3⟩, h4⟩, h5⟩ := h
      obtain ⟨own, h5⟩ := cl_match h5
      obtain ⟨a, b, d, e⟩ := k.name h2
      obtain ⟨hd, cv, ⟨v, r1, r2⟩, hn, _, hs⟩ := k.cn _ _ _ h5
      have hcv : ∀ pp : Pos, ∃ cV, PE X (.Name ‹Str› pp) (tC cV) ∧ ∀ u, RelV cV u → u = cv := by
        intro pp
        rcases hn with hn | ⟨hn, hb, hne⟩
        · exact ⟨v, pe_glob (k.gl' h4) hn r1 hd, r2⟩
        · exact ⟨v, pe_bltn (k.gl' h4) hn hb r1 hne hd, r2⟩
      exact .val k.nd rfl rfl rfl rfl (me_isx k.xi (fun y b hb => (hs y b hb).2) (hcv _) a b d e (k.gl' h3) k.bi)
    · cases h
  | .xat _ _, m, X, J, k => E3.of rfl fun x h => by cases h
  | .blt b es, m, X, J, k => E3.of rfl fun x h => by
    have A := sdEs es m X J k
    split at h
    · simp only [Bool.and_eq_true, decide_eq_true_eq] at h
      obtain ⟨⟨⟨⟨rfl, h2⟩, h3⟩, h4⟩, h5⟩ := h
      have hc : b.cool = true → X.calm = true := fun q => by
        rw [q] at h5
        rw [k.cm]
        simpa using h5
      cases hf : b.fresh with
      | true => exact .fresh k.nd rfl rfl (by cases b <;> first | rfl | cases hf) rfl (mf_blt k.u hc hf (k.gl' h2) (k.bl b) (A _ h3).2 h4)
      | false => exact .val k.nd rfl rfl (by cases b <;> first | rfl | cases hf) rfl (me_blt k.g k.u hc hf (k.gl' h2) (k.bl b) (A _ h3).2 h4)
    · cases h
  | .mth q o es, m, X, J, k => E3.of rfl fun x h => by
    have O := sdE o m X J k
    have A := sdEs es m X J k
    split at h
    · simp only [Bool.and_eq_true, decide_eq_true_eq] at h
      obtain ⟨⟨⟨⟨⟨⟨rfl, h2⟩, h3⟩, h4⟩, h5⟩, h6⟩, h7⟩ := h
      exact .val k.nd rfl rfl rfl rfl (me_mth k.g k.u (O.1 _ h2).pe (A _ h3).1 h4 h5 h6 h7)
    · cases h
  | .popA o es, m, X, J, k => E3.of rfl fun x h => by
    have O := sdE o m X J k
    have A := sdEs es m X J k
    split at h
    · simp only [Bool.and_eq_true, decide_eq_true_eq] at h
      obtain ⟨⟨⟨⟨⟨rfl, h2⟩, h3⟩, h4⟩, h5⟩, h6⟩ := h
      exact .val k.nd rfl rfl rfl rfl (me_pop (O.1 _ h2).pe (A _ h3).1 h4 (by simp [h5]) h6)
    · cases h
  | .call f es, m, X, J, k => E3.of rfl fun x h => by
    have A := sdEs es m X J k
    split at h
    · simp only [Bool.and_eq_true] at h
      obtain ⟨⟨⟨⟨h1, h2⟩, h3⟩, h4⟩, h5⟩ := h
      obtain ⟨n, h3⟩ := fn_match h3
      exact .call k.nd rfl rfl rfl rfl (me_call (k.fn _ _ _ h3 (by rw [k.cm]; exact h1)) k.tk (k.gl' h2) (A _ h4).2 h5)
    · cases h
  | .pcall f es, m, X, J, k => E3.of rfl fun x h => by
    have A := sdEs es m X J k
    split at h
    · simp only [Bool.and_eq_true] at h
      obtain ⟨⟨⟨⟨h1, h2⟩, h3⟩, h4⟩, h5⟩ := h
      obtain ⟨n, h3⟩ := fn_match h3
      exact .call k.nd rfl rfl rfl rfl (me_pcall (k.fn _ _ _ h3 (by rw [k.cm]; exact h1)) k.tk (k.gl' h2) (A _ h4).2 h5)
    · cases h
  | .comp elt tg it c own, m, X, J, k => E3.of rfl fun x h => by
    have I := sdIt it m X J k
    have El := fun (m : Mc) (X : Cx) (J : Jd) (k : Cnd m X J C) => sdE elt m X J k
    have Cd := fun (m : Mc) (X : Cx) (J : Jd) (k : Cnd m X J C) => sdE c m X J k
    split at h
    · rename_i y xt xi ifs as scope pos
      simp only [Bool.and_eq_true, decide_eq_true_eq] at h
      obtain ⟨⟨⟨⟨⟨⟨⟨⟨h1, rfl⟩, h3⟩, h4⟩, h5⟩, h6⟩, h7⟩, h8⟩, h9⟩ := h
      have hc : X.calm = true := by rw [k.cm]; exact h1
      have ok := blk_of h3
      have hk := ok.kind
      have ok : BlkOk X.N X.env.scope scope (ownS m.N own) := by rw [k.N, k.sc]; exact ok
      have hi := (I tg xt xi h5 h9).1
      have hg : ∀ (s : Shared) (H : Hp) (Ca : Addr) (cl : List (Str × Addr)) (fp : List Addr), PG (X.blk s H scope (compEnvC scope cl Ca X.env) fp) xt (TGm J.nox tg) := fun s H Ca cl fp => sd_tg tg (m.blk scope) _ xt (k.blk hc hk s H Ca cl fp) (fun _ => hc) h4
      have ht : ∀ (s : Shared) (H : Hp) (Ca : Addr) (cl : List (Str × Addr)) (fp : List Addr), PTs (X.blk s H scope (compEnvC scope cl Ca X.env) fp) ifs (TTm J.nox (evT C c)) := fun s H Ca cl fp => by
        cases ifs with
        | nil =>
          have hy : c = .cst (.bool true) := by
            have h6 : isYes c = true := h6
            unfold isYes at h6
            split at h6
            · rfl
            · cases h6
          subst hy
          exact ⟨fun pins s σ H Q I ⟨w, env, mh, R, o⟩ => pts_nil.run pins s σ H Q I (OG.now (rel := relB) (a := true) o R.h rfl)⟩
        | cons z zs =>
          cases zs with
          | nil => exact pts_one ((Cd _ _ _ (k.blk hc hk s H Ca cl fp)).1 z h6).pt
          | cons _ _ => cases h6
      have he : ∀ (s : Shared) (H : Hp) (Ca : Addr) (cl : List (Str × Addr)) (fp : List Addr), PE (X.blk s H scope (compEnvC scope cl Ca X.env) fp) y (TEm J.nox (evE C elt)) := fun s H Ca cl fp => ((El _ _ _ (k.blk hc hk s H Ca cl fp)).1 y h7).pe
      have hsl : ∀ j ∈ tg.slots, j ∈ (ownS m.N own).map (·.2) := fun j hj => by
        rw [ownS_snd]
        have := List.all_eq_true.mp h8 j hj
        simpa using this
      have W := mf_comp (xe := y) (pos := pos) hc k.nd hi ok h9 hsl hg ht he
      rw [ownS_snd] at W
      have pf : PE X (.ListComp y [⟨xt, xi, ifs, 0⟩] scope pos) (TEf J (evE C (.comp elt tg it c own))) := by
        refine PE.weak (pe_lc hc k.nd hi ok hg ht he (folded_of h9)) fun σ H Q q => ?_
        rw [ownS_snd]
        exact W σ H Q q
      have pe : PE X (.ListComp y [⟨xt, xi, ifs, 0⟩] scope pos) (TEm J (evE C (.comp elt tg it c own))) := PE.weak pf fun _ _ _ h => TEf.tem h
      have af : ∀ (i : Nat) (z : Str) (p spos : Pos), SetOk X i z → AsgOk X (.Name z p) (.ListComp y [⟨xt, xi, ifs, 0⟩] scope pos) spos (TEf J (evE C (.comp elt tg it c own))) (gName i) := fun i z p spos so => by
        have sw : swapsWith (.ListComp y [⟨xt, xi, ifs, 0⟩] scope pos) (some (.Name z p)) spos.line X.env = pure (X.env.blockKind == .function && X.env.kindOf z == some .local && p.line == pos.line
            && !(scope.names.any fun (n, k) => n == z && (k == .local || k == .cell))) := rfl
        cases hb : (X.env.blockKind == .function && X.env.kindOf z == some .local && p.line == pos.line
            && !(scope.names.any fun (n, k) => n == z && (k == .local || k == .cell))) with
        | true =>
          rw [hb] at sw
          simp only [Bool.and_eq_true, beq_iff_eq] at hb
          refine tAsg_weak (ps_setLc hc k.nd so.at_ hb.1.1.2 sw hi ok hg ht he (folded_of h9)) fun σ H Q q => ?_
          rw [ownS_snd]
          exact W σ H Q q
        | false =>
          rw [hb] at sw
          exact ps_set k.nd so.at_ so.loc pf sw so.fn
      exact ⟨pe, mt_val pe rfl (isTrue_val rfl), fun _ => by rw [TEo_f rfl]; exact pf, fun i z p spos so => ⟨tAsg_weak (af i z p spos so) fun _ _ _ h => TEf.tem h, fun _ => by rw [TEo_f rfl]; exact af i z p spos so⟩⟩
    · cases h
theorem sdEs : ∀ (es : Es) (m : Mc) (X : Cx) (J : Jd), Cnd m X J C → ∀ xs, mtEs es m xs = true → PA X xs (TDm J (evEs C es)) ∧ PA X xs (TVm J (evVs C es))
  | .nil, m, X, J, k, xs, h => by
    have h : xs.isEmpty = true := h
    cases xs with
    | nil => exact ⟨ma_nil, mv_nil⟩
    | cons _ _ => cases h
  | .cons e es, m, X, J, k, xs, h => by
    cases xs with
    | nil => cases h
    | cons x xs =>
      have h : ((mtP e).one m x && mtEs es m xs && plainX x) = true := h
      simp only [Bool.and_eq_true] at h
      have he := (sdE e m X J k).1 _ h.1.1
      have hs := sdEs es m X J k xs h.1.2
      exact ⟨ma_cons he.pe hs.1 h.2, mv_cons he.pe hs.2 h.2⟩
  | .star _ _, m, X, J, k, xs, h => by cases h
theorem sdPs : ∀ (es : Es) (m : Mc) (X : Cx) (J : Jd), Cnd m X J C → ∀ ks vs l, weave ks vs = some l → mtEs es m l = true → PsOk X J C es ks vs
  | .nil, m, X, J, k, ks, vs, l, hw, h => by
    have h : l.isEmpty = true := h
    obtain ⟨_, w2, w3⟩ := weave_ok hw
    have hl : l = [] := by simpa using h
    subst hl
    have hk : ks = [] := by cases ks with | nil => rfl | cons _ _ => simp at w3
    subst hk
    have hv : vs = [] := by cases vs with | nil => rfl | cons _ _ => simp at w2
    subst hv
    exact .nil
  | .cons e .nil, m, X, J, k, ks, vs, l, hw, h => by
    obtain ⟨_, w2, w3⟩ := weave_ok hw
    cases l with
    | nil => cases h
    | cons a l =>
      have h : ((mtP e).one m a && mtEs .nil m l && plainX a) = true := h
      simp only [Bool.and_eq_true] at h
      have hl : l.isEmpty = true := h.1.2
      have hl : l = [] := by simpa using hl
      subst hl
      simp at w3
      omega
  | .cons e (.star _ _), m, X, J, k, ks, vs, l, hw, h => by
    cases l with
    | nil => cases h
    | cons a l =>
      have h : ((mtP e).one m a && mtEs (.star _ _) m l && plainX a) = true := h
      simp only [Bool.and_eq_true] at h
      exact absurd h.1.2 (by unfold mtEs; simp)
  | .cons e (.cons f es), m, X, J, k, ks, vs, l, hw, h => by
    cases ks with
    | nil =>
      cases vs with
      | nil => cases (Option.some.inj (show some [] = some l from hw)); cases h
      | cons _ _ => cases hw
    | cons a ks =>
      cases a with
      | none => cases hw
      | some xk =>
        cases vs with
        | nil => cases hw
        | cons xv vs =>
          obtain ⟨r, h1, rfl⟩ := Option.map_eq_some_iff.mp (show (weave ks vs).map (fun r => xk :: xv :: r) = some l from hw)
          have h : ((mtP e).one m xk && ((mtP f).one m xv && mtEs es m r && plainX xv) && plainX xk) = true := h
          simp only [Bool.and_eq_true] at h
          exact .cons ((sdE e m X J k).1 _ h.1.1).pe ((sdE f m X J k).1 _ h.1.2.1.1).pe (sdPs es m X J k ks vs r h1 h.1.2.1.2)
  | .star _ _, m, X, J, k, ks, vs, l, hw, h => by cases h
theorem sdIt : ∀ (it : Mn.It) (m : Mc) (X : Cx) (J : Jd), Cnd m X J C → ∀ tg xt xi, mtIt it m tg xt xi = true → plainX xi = true → PI X xt xi (TIm J Ext tg (evIt C it)) ∧ PI X xt xi (TIm J FKeep tg (evItF C it))
  | .of e, m, X, J, k, tg, xt, xi, h, _ => by
    have h := (sdE e m X J k).1 xi h
    exact ⟨mi_of h.pe, mi_ofF h.pe⟩
  | .rng1 a, m, X, J, k, tg, xt, xi, h, _ => by
    have A := sdE a m X J k
    unfold mtIt at h
    split at h
    · simp only [Bool.and_eq_true, decide_eq_true_eq] at h
      obtain ⟨⟨⟨rfl, h2⟩, h3⟩, h4⟩ := h
      exact ⟨mi_rng1 (A.1 _ h3).pe (k.gl' h2) k.br h4, mi_rng1 (A.1 _ h3).pe (k.gl' h2) k.br h4⟩
    · cases h
  | .rng2 a b, m, X, J, k, tg, xt, xi, h, _ => by
    have A := sdE a m X J k
    have B := sdE b m X J k
    unfold mtIt at h
    split at h
    · simp only [Bool.and_eq_true, decide_eq_true_eq] at h
      obtain ⟨⟨⟨⟨⟨rfl, h2⟩, h3⟩, h4⟩, h5⟩, h6⟩ := h
      exact ⟨mi_rng2 (A.1 _ h3).pe (B.1 _ h4).pe (k.gl' h2) k.br (by simp [h5, h6]), mi_rng2 (A.1 _ h3).pe (B.1 _ h4).pe (k.gl' h2) k.br (by simp [h5, h6])⟩
    · cases h
  | .zip2 a b, m, X, J, k, tg, xt, xi, h, _ => by
    have A := sdE a m X J k
    have B := sdE b m X J k
    unfold mtIt at h
    split at h
    · simp only [Bool.and_eq_true, decide_eq_true_eq] at h
      obtain ⟨⟨⟨⟨⟨⟨h1, rfl⟩, h2⟩, h3⟩, h4⟩, h5⟩, h6⟩ := h
      exact ⟨mi_zip2 (fun _ _ _ _ q => q.fk) h1 (A.1 _ h3).pe (B.1 _ h4).pe (k.gl' h2) k.bz (by simp [h5, h6]), mi_zip2 (fun _ _ _ _ q => q) h1 (A.1 _ h3).pe (B.1 _ h4).pe (k.gl' h2) k.bz (by simp [h5, h6])⟩
    · cases h
  | .zip3 a b c, m, X, J, k, tg, xt, xi, h, _ => by
    have A := sdE a m X J k
    have B := sdE b m X J k
    have D := sdE c m X J k
    unfold mtIt at h
    split at h
    · simp only [Bool.and_eq_true, decide_eq_true_eq] at h
      obtain ⟨⟨⟨⟨⟨⟨⟨⟨h1, rfl⟩, h2⟩, h3⟩, h4⟩, h5⟩, h6⟩, h7⟩, h8⟩ := h
      exact ⟨mi_zip3 (fun _ _ _ _ q => q.fk) h1 (A.1 _ h3).pe (B.1 _ h4).pe (D.1 _ h5).pe (k.gl' h2) k.bz (by simp [h6, h7, h8]), mi_zip3 (fun _ _ _ _ q => q) h1 (A.1 _ h3).pe (B.1 _ h4).pe (D.1 _ h5).pe (k.gl' h2) k.bz (by simp [h6, h7, h8])⟩
    · cases h
  | .enum a, m, X, J, k, tg, xt, xi, h, _ => by
    have A := sdE a m X J k
    unfold mtIt at h
    split at h
    · simp only [Bool.and_eq_true, decide_eq_true_eq] at h
      obtain ⟨⟨⟨⟨h1, rfl⟩, h2⟩, h3⟩, h4⟩ := h
      exact ⟨mi_enum (fun _ _ _ _ q => q.fk) h1 (A.1 _ h3).pe (k.gl' h2) k.be (by simp [h4]), mi_enum (fun _ _ _ _ q => q) h1 (A.1 _ h3).pe (k.gl' h2) k.be (by simp [h4])⟩
    · cases h
end
end
end Mn
end
section
set_option linter.all false
set_option autoImplicit false
set_option maxRecDepth 100000
/-! Mini: what is matched, does what the evaluator says: statements. -/
namespace Mn
open PySem PySem.Spec PyProof.Rows L2

structure CndS (m : Mc) (X : Cx) (J : Jd) (C : CallF) : Prop where
  c : Cnd m X J C
  ps : X.calm = true → PassesOwn (model X.prog X.w) X.A X.env X.xe
  stk : X.stack = X.env :: X.outer
  fr : X.env.frame = some X.env.locals
  ec : ∀ y, ExcC X.K (J.T.ca y)
section
variable {m : Mc} {X : Cx} {J : Jd} {C : CallF}
theorem CndS.tr (k : CndS m X J C) (hcm : X.calm = true) (W : WX) (pn : List (Addr × Obj)) (xe : Value → Shared → Prop) (tk : Takes (X.tr pn xe) W) (ps : PassesOwn (model X.prog X.w) X.A X.env xe) : CndS m (X.tr pn xe) { J with W := W } C where
  c := {
    sc := k.c.sc
    N := k.c.N
    ow := k.c.ow
    cm := k.c.cm
    g := k.c.g
    u := k.c.u
    nd := k.c.nd
    fk := k.c.fk
    tk := tk
    bl := k.c.bl
    ty := k.c.ty
    bi := k.c.bi
    br := k.c.br
    bz := k.c.bz
    be := k.c.be
    fn := fun f x n h hc => let F := k.c.fn f x n h hc; ⟨F.fn, F.db, F.len⟩
    gl := k.c.gl
    cx := k.c.cx
    cn := fun c x own h => by
      obtain ⟨h1, cv, h2, h3, h4, h5⟩ := k.c.cn c x own h
      exact ⟨h1, cv, h2, h3, fun q => let K := h4 q; ⟨K.ex, K.gl, K.kp, K.sb, K.ty, K.db⟩, h5⟩
    xi := fun a D e hD => by
      have e : J.T.ex = some (a, .ref D, none) := e
      rw [k.c.cx hcm] at e; cases e }
  ps := fun _ => ps
  stk := k.stk
  fr := k.fr
  ec := k.ec
theorem CndS.suite (k : CndS m X J C) (a : Addr) (oe : Obj) (cls : Value) (d : Option Addr) (pn : List (Addr × Obj)) (hz : Zc cls d oe) (hf : ∃ vs, oe.data = .fields vs) : CndS { m with calm := false } (X.suite a ((a, oe) :: pn)) (J.suite a cls d) C where
  c := {
    sc := k.c.sc
    N := k.c.N
    ow := k.c.ow
    cm := rfl
    g := k.c.g
    u := k.c.u
    nd := k.c.nd
    fk := k.c.fk
    tk := takes_nox
    bl := k.c.bl
    ty := k.c.ty
    bi := k.c.bi
    br := k.c.br
    bz := k.c.bz
    be := k.c.be
    fn := fun f x n h hc => by cases hc
    gl := k.c.gl
    cx := fun hc => by cases hc
    cn := fun c x own h => by
      obtain ⟨h1, cv, h2, h3, h4, h5⟩ := k.c.cn c x own h
      exact ⟨h1, cv, h2, h3, fun q => let K := h4 q; ⟨K.ex, K.gl, K.kp, K.sb, K.ty, K.db⟩, h5⟩
    xi := fun a' D e hD => by
      have e : some (a, cls, d) = some (a', .ref D, none) := e
      cases e
      obtain ⟨y, hy⟩ := hD
      have hE : ExcC X.K D := by rw [hy]; exact k.ec y
      exact call_isE hE hz hf }
  ps := fun hc => by cases hc
  stk := k.stk
  fr := k.fr
  ec := k.ec
theorem CndS.suite0 (k : CndS m X J C) (hT : J.T.ex = none) (a : Addr) (oe : Obj) (pn : List (Addr × Obj)) : CndS { m with calm := false } (X.suite a ((a, oe) :: pn)) J.nox C where
  c := {
    sc := k.c.sc
    N := k.c.N
    ow := k.c.ow
    cm := rfl
    g := k.c.g
    u := k.c.u
    nd := k.c.nd
    fk := k.c.fk
    tk := takes_nox
    bl := k.c.bl
    ty := k.c.ty
    bi := k.c.bi
    br := k.c.br
    bz := k.c.bz
    be := k.c.be
    fn := fun f x n h hc => by cases hc
    gl := k.c.gl
    cx := fun hc => by cases hc
    cn := fun c x own h => by
      obtain ⟨h1, cv, h2, h3, h4, h5⟩ := k.c.cn c x own h
      exact ⟨h1, cv, h2, h3, fun q => let K := h4 q; ⟨K.ex, K.gl, K.kp, K.sb, K.ty, K.db⟩, h5⟩
    xi := fun a' D e hD => by
      have e : J.T.ex = some (a', .ref D, none) := e
      rw [hT] at e; cases e }
  ps := fun hc => by cases hc
  stk := k.stk
  fr := k.fr
  ec := k.ec
theorem swapped_none {t x : Expr} {env : Env} (h : noTup x = true) : swappedStores [t] x env = pure none := by
  unfold swappedStores
  cases t <;> cases x <;> first | rfl | cases h
theorem assign_one {t : Expr} {env : Env} (h : plainX t = true) : (assignEach [t] env).map (·.2) = [assign t env] := by rw [assign_plain h]; rfl
theorem append_eq {a : Str} : True := trivial
theorem Cnd.names (k : Cnd m X J C) {n : Str} {cv : Value} (hg : glB m.sc n = true) (hd : (n == ("__debug__" : Str)) = false) (hn : (X.mg n = some cv) ∨ (X.mg n = none ∧ bootBuiltins n = some cv ∧ n ≠ "__name__")) : Names X n cv := ⟨k.gl' hg, hd, hn⟩
mutual
theorem sdS : ∀ (s : S) (m : Mc) (X : Cx) (J : Jd), CndS m X J C → ∀ st, mtS s m st = true → PS X st (TSm J (evS C s))
  | .expr e, m, X, J, k, st, h => by
    unfold mtS at h
    split at h
    · rw [Bool.and_eq_true] at h
      exact ms_expr ((sdE e m X J k.c).1 _ h.1).pe (swap_no h.2)
    · cases h
  | .asg t e, m, X, J, k, st, h => by
    unfold mtS at h
    split at h
    · rename_i tx x pos
      simp only [Bool.and_eq_true] at h
      obtain ⟨⟨h1, h2⟩, h3⟩ := h
      have A := (sdE e m X J k.c).1 _ h2
      cases t with
      | nm i =>
        unfold mtTg at h1
        split at h1
        · rename_i n p
          exact ms_asgN (A.as i n p pos (k.c.set h1)).1
        · cases h1
      | nil =>
        simp only [Bool.and_eq_true] at h3
        obtain ⟨⟨⟨h4, h5⟩, h6⟩, h7⟩ := h3
        have hp : plainX tx = true := by
          unfold mtTg at h1
          split at h1
          · rfl
          · cases h1
        exact ms_asgT h4 (ps_asg A.pe (sd_tg .nil m X tx k.c (fun _ => by rw [k.c.cm]; exact h7) h1) (swap_no h5) (swapped_none h6) (assign_one hp))
      | cons a b =>
        simp only [Bool.and_eq_true] at h3
        obtain ⟨⟨⟨h4, h5⟩, h6⟩, h7⟩ := h3
        have hp : plainX tx = true := by
          unfold mtTg at h1
          split at h1
          · rfl
          · cases h1
        exact ms_asgT h4 (ps_asg A.pe (sd_tg (.cons a b) m X tx k.c (fun _ => by rw [k.c.cm]; exact h7) h1) (swap_no h5) (swapped_none h6) (assign_one hp))
    · cases h
  | .asgO i e, m, X, J, k, st, h => by
    unfold mtS at h
    split at h
    · rename_i n p x pos
      simp only [Bool.and_eq_true] at h
      exact ms_asgO ((((sdE e m X J k.c).1 _ h.1.2).as i n p pos (k.c.set h.1.1)).2 h.2)
    · cases h
  | .asgH i e, m, X, J, k, st, h => by
    unfold mtS at h
    split at h
    · rename_i n p x pos
      simp only [Bool.and_eq_true] at h
      exact ms_asgH ((((sdE e m X J k.c).1 _ h.1.2).as i n p pos (k.c.set h.1.1)).2 h.2)
    · cases h
  | .app i e, m, X, J, k, st, h => by
    unfold mtS at h
    split at h
    · simp only [Bool.and_eq_true, decide_eq_true_eq] at h
      obtain ⟨⟨⟨⟨rfl, h2⟩, h3⟩, h4⟩, h5⟩ := h
      obtain ⟨a, b, c, d⟩ := k.c.name h2
      exact ms_app a b c d ((sdE e m X J k.c).1 _ h3).pe h4 h5
    · cases h
  | .setI i q v, m, X, J, k, st, h => by
    unfold mtS at h
    split at h
    · simp only [Bool.and_eq_true] at h
      obtain ⟨⟨⟨h2, h3⟩, h4⟩, h5⟩ := h
      obtain ⟨a, b, c, d⟩ := k.c.name h2
      have sw : ∀ {vx : Expr} {o i : Expr} {p : Pos} {l : Nat} {env : Env}, swapsWith vx (some (.Subscript o i p)) l env = pure false := fun {vx o i p l env} => by cases vx <;> rfl
      exact ms_setI k.c.g k.c.u a b c d ((sdE q m X J k.c).1 _ h3).pe ((sdE v m X J k.c).1 _ h4).pe h5 sw
    · cases h
  | .aug i op e, m, X, J, k, st, h => by
    unfold mtS at h
    split at h
    · simp only [Bool.and_eq_true, decide_eq_true_eq, Bool.or_eq_true] at h
      obtain ⟨⟨⟨h1, rfl⟩, h3⟩, h4⟩ := h
      obtain ⟨a, b, c, d, e'⟩ := k.c.set h3
      exact ms_aug h1 k.c.nd a b c ((sdE e m X J k.c).1 _ h4).pe d e'
    · cases h
  | .ret e, m, X, J, k, st, h => by
    unfold mtS at h
    split at h
    · cases hv : notVar e with
      | true => exact ms_ret hv ((sdE e m X J k.c).1 _ h).pe
      | false =>
        cases e with
        | var i =>
          have h : (match (generalizing := false) ‹Expr› with
            | .Name n _ => nameB m i n
            | _ => false) = true := h
          split at h
          · obtain ⟨a, b, c, d⟩ := k.c.name h
            exact ms_retV a b c d
          · cases h
        | _ => cases hv
    · cases h
  | .retM e, m, X, J, k, st, h => by
    unfold mtS at h
    split at h
    · simp only [Bool.and_eq_true] at h
      cases hv : notVar e with
      | true =>
        have h2 := h.2
        rw [hv] at h2
        exact ms_retM hv (((sdE e m X J k.c).1 _ h.1).po (by simpa using h2))
      | false =>
        cases e with
        | var i =>
          have h : (match (generalizing := false) ‹Expr› with
            | .Name n _ => nameB m i n
            | _ => false) = true := h.1
          split at h
          · obtain ⟨a, b, c, d⟩ := k.c.name h
            exact ms_retMV a b c d
          · cases h
        | _ => cases hv
    · cases h
  | .retN, m, X, J, k, st, h => by
    unfold mtS at h
    split at h
    · exact ms_retN
    · cases h
  | .if_ c a b, m, X, J, k, st, h => by
    unfold mtS at h
    split at h
    · simp only [Bool.and_eq_true] at h
      exact ms_if ((sdE c m X J k.c).1 _ h.1.1).pt (sdSs a m X J k _ h.1.2) (sdSs b m X J k _ h.2)
    · cases h
  | .for_ t it body, m, X, J, k, st, h => by
    unfold mtS at h
    split at h
    · simp only [Bool.and_eq_true] at h
      obtain ⟨⟨⟨⟨h1, h2⟩, h3⟩, h4⟩, h5⟩ := h
      have hc : X.calm = true := by rw [k.c.cm]; exact h1
      exact ms_for (k.ps hc) hc (sdIt it m X J k.c t _ _ h3 h5).2 (sd_tg t m X _ k.c (fun _ => hc) h2) (sdSs body m X J k _ h4) h5
    · cases h
  | .while_ n c body, m, X, J, k, st, h => by
    unfold mtS at h
    split at h
    · simp only [Bool.and_eq_true] at h
      obtain ⟨⟨h1, h2⟩, h3⟩ := h
      have hc : X.calm = true := by rw [k.c.cm]; exact h1
      exact ms_while (k.ps hc) ((sdE c m X J k.c).1 _ h2).pt (sdSs body m X J k _ h3)
    · cases h
  | .brk, m, X, J, k, st, h => by
    unfold mtS at h
    split at h
    · exact ms_brk
    · cases h
  | .cont, m, X, J, k, st, h => by
    unfold mtS at h
    split at h
    · exact ms_cont
    · cases h
  | .pass, m, X, J, k, st, h => by
    unfold mtS at h
    split at h
    · exact ms_pass
    · cases h
  | .raise c es, m, X, J, k, st, h => by
    unfold mtS at h
    split at h
    · simp only [Bool.and_eq_true] at h
      obtain ⟨⟨h1, h2⟩, h3⟩ := h
      have hc : X.calm = true := by rw [k.c.cm]; exact h1
      split at h3
      · rename_i n' own e
        rw [Bool.and_eq_true] at h3
        have hn := of_decide_eq_true h3.1
        subst hn
        obtain ⟨hd, cv, _, _, hk, _⟩ := k.c.cn c _ own e
        exact ms_raise0 hc k.c.tk (hk h3.2) (k.c.gl' h2)
      · cases h3
    · cases h
  | .try_ body c i su, m, X, J, k, st, h => by
    unfold mtS at h
    split at h
    · rename_i xs n np nm y ys pos' pos
      simp only [Bool.and_eq_true] at h
      obtain ⟨⟨⟨⟨⟨h1, h2⟩, h3⟩, h4⟩, h5⟩, h6⟩ := h
      have hc : X.calm = true := by rw [k.c.cm]; exact h1
      have hT := k.c.cx hc
      obtain ⟨own, h3⟩ := cl_match h3
      obtain ⟨hd, cv, _, hn, _, hs⟩ := k.c.cn c n own h3
      have hb : ∀ (W : WX) (pn : List (Addr × Obj)) (xe : Value → Shared → Prop), Takes (X.tr pn xe) W → PassesOwn (model X.prog X.w) X.A X.env xe → PSs (X.tr pn xe) xs (TSm { J with W := W } (evSs C body)) := fun W pn xe tk ps => sdSs body m _ _ (k.tr hc W pn xe tk ps) xs h4
      cases i with
      | none =>
        cases nm with
        | some z => cases h6
        | none => exact ms_tryOnly k.stk k.fr (k.c.names h2 hd hn) k.c.tk (fun y b hb => (hs y b hb).1) hb fun a oe cls d pn hz hf => sdSs su _ _ _ (k.suite0 hT a oe pn) _ h5
      | some j =>
        cases nm with
        | none => cases h6
        | some z =>
          simp only [Bool.and_eq_true, decide_eq_true_eq] at h6
          refine ms_tryAs hT k.stk k.fr k.c.nd (by rw [k.c.N]; exact h6.1) ?_ (k.c.names h2 hd hn) k.c.tk (fun y b hb => (hs y b hb).1) hb fun a oe cls d pn hz hf => sdSs su _ _ _ (k.suite a oe cls d pn hz hf) _ h5
          show X.env.scope.names.lookup z = _
          rw [k.c.sc]
          exact lcl_of h6.2
    · cases h
  | .frz _, m, X, J, k, st, h => by cases h
  | .nv, m, X, J, k, st, h => ms_never
theorem sdSs : ∀ (r : Ss) (m : Mc) (X : Cx) (J : Jd), CndS m X J C → ∀ xs, mtSs r m xs = true → PSs X xs (TSm J (evSs C r))
  | .nil, m, X, J, k, xs, h => by
    have h : xs.isEmpty = true := h
    cases xs with
    | nil => exact mss_nil
    | cons _ _ => cases h
  | .cons s r, m, X, J, k, xs, h => by
    have S := sdS s m X J k
    have R := sdSs r m X J k
    unfold mtSs at h
    split at h
    · exact mss_frz (R _ h)
    · exact mss_never
    · split at h
      · rw [Bool.and_eq_true] at h
        exact mss_cons (S _ h.1) (R _ h.2)
      · cases h
end
end
end Mn
end
section
set_option linter.all false
set_option autoImplicit false
set_option maxRecDepth 100000
/-! Mini: defs. -/
namespace Mn
open PySem PySem.Spec PyProof.Rows L2

/-- a def: its name, parameters, names; what it does; its text -/
structure Df where
  id : Nat
  name : Str
  ps : List Str
  N : List Str
  d : FDef
  st : Stmt
def dfAt (df : List Df) (f : Nat) : Option Df := df.find? fun q => decide (q.id = f)
theorem dfAt_mem {df : List Df} {f : Nat} {q : Df} (h : dfAt df f = some q) : q ∈ df := List.mem_of_find?_eq_some h
def fsB (N P : List Str) (sc : Scope) : Bool :=
  decide (sc.kind = .function) && !sc.isCoroutine && !sc.isGenerator && decide N.Nodup && decide (N.take P.length = P) &&
  (P.all fun x => decide (sc.names.lookup x = some .local) || decide (sc.names.lookup x = some .cell)) && sc.names.all fun y => !decide (y.2 = .free)
theorem fs_of {N P : List Str} {sc : Scope} (h : fsB N P sc = true) : FnScope N P sc := by
  unfold fsB at h
  simp only [Bool.and_eq_true, Bool.not_eq_true', decide_eq_true_eq, List.all_eq_true, Bool.or_eq_true, decide_eq_false_iff_not] at h
  obtain ⟨⟨⟨⟨⟨⟨h1, h2⟩, h3⟩, h4⟩, h5⟩, h6⟩, h7⟩ := h
  exact ⟨h1, h2, h3, h4, h5, h6, h7⟩
def mcOf (tb : Tab) (q : Df) : Mc := ⟨tb, q.N, defScope q.st, fun _ => true, true⟩
def dfB (tb : Tab) (q : Df) : Bool := mtSs q.d.body (mcOf tb q) (defBody q.st) && fsB q.N q.ps (defScope q.st) && decide (q.d.ps = q.ps.length) && decide (q.d.ns = q.N.length) && !odd q.name
section
variable {T : Stat} {w : Wd} {mh : MH} {H : Hp}
theorem start_rel {N : List Str} {ns : Nat} {vs : List V} {rs : List RV} (R : RelH T w mh H) (r : RvsOk T w H vs rs) (hp : rs.all RV.passes = true) (hn : ns = N.length) : Rel T ⟨w, H⟩ w (rs.map some ++ List.replicate (ns - rs.length) none) mh (start N vs) H := by
  have hl := r.length
  have get : ∀ {vs : List V} {rs : List RV} {i : Nat} {x : RV}, RvsOk T w H vs rs → rs[i]? = some x → ∃ v, vs[i]? = some v ∧ RvOk T w H v x := fun {vs rs i x} q => by
    induction q generalizing i with
    | nil => intro e; simp at e
    | cons r _ ih =>
      intro e
      cases i with
      | zero => simp at e; subst e; exact ⟨_, rfl, r⟩
      | succ i =>
        obtain ⟨v, e1, q⟩ := ih (i := i) (by simpa using e)
        exact ⟨v, by simpa using e1, q⟩
  have env : ∀ {i : Nat} {x : RV}, (rs.map some ++ List.replicate (ns - rs.length) none)[i]? = some (some x) → rs[i]? = some x := fun {i x} e => by
    by_cases hi : i < rs.length
    · rw [List.getElem?_append_left (by simpa using hi), List.getElem?_map] at e
      cases q : rs[i]? with
      | none => rw [q] at e; cases e
      | some y => rw [q] at e; cases e; rfl
    · rw [List.getElem?_append_right (by simpa using hi), List.getElem?_replicate] at e
      split at e
      · cases e
      · cases e
  have pass : ∀ {i : Nat} {x : RV}, rs[i]? = some x → x.own = true → False := fun {i x} e ho => by
    have := List.all_eq_true.mp hp x (List.mem_of_getElem? e)
    cases x with
    | dat d => cases ho
    | ref n => cases ho
    | olst xs => cases this
    | odct xs => cases this
    | xcp c a => cases this
  refine ⟨R, ⟨?_, fun i x e => ?_, fun i j x y a _ e1 _ o1 _ _ _ => pass (env e1) o1⟩, .refl, fun i x a e o _ => (pass (env e) o).elim⟩
  · unfold L2.start
    rw [List.length_append, List.length_append, List.length_map, List.length_map, List.length_replicate, List.length_replicate, hl, hn]
  · obtain ⟨v, e1, q⟩ := get r (env e)
    refine ⟨v, ?_, q⟩
    unfold L2.start
    rw [List.getElem?_append_left (by rw [List.length_map]; exact (List.getElem?_eq_some_iff.mp e1).1), List.getElem?_map, e1]
    rfl
end
/-- what the written part says of a law -/
structure Facts (P : Program) (w : World) (K : PySem.W.Frag) (mg : Str → Option Value) (T : Stat) (sub : Nat → Nat → Option Bool) (tb : Tab) (df : List Df) : Prop where
  g : T.g = ⟨P, w⟩
  ex : T.ex = none
  bl : ∀ b : Blt, mg b.id = none
  ty : ∀ t : Ty, t ≠ .lt → mg t.name = none
  bi : mg "isinstance" = none
  br : mg "range" = none
  bz : mg "zip" = none
  be : mg "enumerate" = none
  gl : ∀ k x d, tb.gl k = some (x, d) → ∃ v u, mg x = some u ∧ RelV v u ∧ (x == ("__debug__" : Str)) = false ∧ ∀ F H, Dv T.g F H v d
  cn : ∀ c x own, tb.cl c = some (x, own) → (x == ("__debug__" : Str)) = false ∧ ∃ cv : Value, (∃ v : V, RelV v cv ∧ ∀ u, RelV v u → u = cv) ∧ ((mg x = some cv) ∨ (mg x = none ∧ bootBuiltins x = some cv ∧ x ≠ "__name__")) ∧
    (own = true → PySem.W.excIn K (T.ca c) veMro "ValueError.__new__" = true ∧ mg x = some (.ref (T.ca c)) ∧ PySem.W.keepIn K (.ref (T.ca c)) = true ∧ PySem.W.subIn K (.ref (T.ca c)) (.type "BaseException") = some true ∧ PySem.W.typeIn K (.ref (T.ca c)) = some (.type "type")) ∧
    ∀ y b, sub y c = some b → PySem.W.exmOne K (.ref (T.ca y)) cv = some b ∧ PySem.W.kitOne K (.ref (T.ca y)) cv = some b
  ec : ∀ y, ExcC K (T.ca y)
  tf : ∀ f, tb.fn f = (dfAt df f).map fun q => (q.name, q.ps.length)
  fn : ∀ q ∈ df, dfB tb q = true ∧ ∃ (f : Addr) (fd : FuncData), FunD K q.name q.name (defArgs q.st) (defBody q.st) (defScope q.st) [] [] f fd ∧ mg q.name = some (.ref f) ∧ Binds K fd q.ps []
def progOf (df : List Df) : Nat → Option FDef := fun f => (dfAt df f).map (·.d)
section
variable {P : Program} {w : World} {K : PySem.W.Frag} {mg : Str → Option Value} {base : Heap} {T : Stat} {sub : Nat → Nat → Option Bool} {tb : Tab} {df : List Df}
theorem OG.sg {W₀ : XK} {w₀ : Wd} {H : Hp} {Q : VK} {o : SO} (h : OG T (RvN T H) W₀ w₀ H (bodyEnd o) Q) : SG ⟨T, ⟨w₀, H⟩, fun cls d _ H => W₀ cls d H⟩ w₀ H o { nx := fun _ H' => Q .non H', rt := Q } := by
  cases o with
  | next env mh => exact fun w' σ' H' _ R => h w' .non H' R.x R.h ⟨.non, fun z => by cases z⟩
  | ret rv mh => exact fun w' v H' x R q => h w' v H' x R q
  | brk env mh => exact h.elim
  | cont env mh => exact h.elim
  | exc x env mh => exact fun w' σ' cls d H' _ R q => h w' cls d H' R.x R.h q
  | stuck => exact h.elim
theorem Facts.fnAt (F : Facts P w K mg T sub tb df) {n : Nat} (ih : ∀ f q, dfAt df f = some q → ∀ (fa : Addr) (fd : FuncData), FunD K q.name q.name (defArgs q.st) (defBody q.st) (defScope q.st) [] [] fa fd → FnOk P w K mg base (L2.CX P w) n fa fd q.ps (spM T q.ps.length (callN (progOf df) sub n f)))
    {X : Cx} (e1 : X.prog = P) (e2 : X.w = w) (e3 : X.K = K) (e4 : X.mg = mg) (e5 : X.base = base) (hr : Room n X.A) : ∀ f x k, tb.fn f = some (x, k) → FnAt X T x k (callN (progOf df) sub n f) := fun f x k h => by
  subst e1 e2 e3 e4 e5
  rw [F.tf] at h
  cases hq : dfAt df f with
  | none => rw [hq] at h; cases h
  | some q =>
    rw [hq] at h
    cases h
    obtain ⟨hB, fa, fd, FD, hm, hb⟩ := F.fn q (dfAt_mem hq)
    have hd : odd q.name = false ∧ q.d.ps = q.ps.length := by
      unfold dfB at hB
      simp only [Bool.and_eq_true, Bool.not_eq_true', decide_eq_true_eq] at hB
      exact ⟨hB.2, hB.1.1.2⟩
    refine ⟨⟨n, fa, fd, q.ps, ih f q hq fa fd FD, hr, hm, FD.kp, hb⟩, (odd_of hd.1).1, fun rs mh hl => ?_⟩
    cases n with
    | zero => rfl
    | succ n =>
      show (match progOf df f with
        | some d => runF ⟨callN (progOf df) sub n, sub⟩ d rs mh
        | none => .stuck) = .stuck
      unfold progOf
      rw [hq]
      show runF _ q.d rs mh = .stuck
      unfold runF
      rw [if_neg fun z => hl (by rw [z.1, hd.2])]
theorem Facts.ok (F : Facts P w K mg T sub tb df) : ∀ n f q, dfAt df f = some q → ∀ (fa : Addr) (fd : FuncData), FunD K q.name q.name (defArgs q.st) (defBody q.st) (defScope q.st) [] [] fa fd → FnOk P w K mg base (L2.CX P w) n fa fd q.ps (spM T q.ps.length (callN (progOf df) sub n f))
  | 0, f, q, hq, fa, fd, FD => ⟨fun vs H Q E ⟨_, rs, _, _, r, hl, _⟩ => by rw [r.length, hl], fun A outer s H args us vs Q E _ _ _ _ ⟨_, rs, mh, _, _, _, o⟩ => o.elim⟩
  | n + 1, f, q, hq, fa, fd, FD => by
    have hB := (F.fn q (dfAt_mem hq)).1
    unfold dfB at hB
    simp only [Bool.and_eq_true, Bool.not_eq_true', decide_eq_true_eq] at hB
    obtain ⟨⟨⟨⟨h1, h2⟩, h3⟩, h4⟩, h5⟩ := hB
    have S := fs_of h2
    refine FD.ok S (fun vs H Q E ⟨_, rs, _, _, r, hl, _⟩ => by rw [r.length, hl]) fun cdv A outer s H vs Q E hr hsp => ?_
    obtain ⟨w₀, rs, mh, R, r, hl, o⟩ := hsp
    have o : OG T (RvN T H) E w₀ H (match progOf df f with
        | some d => runF ⟨callN (progOf df) sub n, sub⟩ d rs mh
        | none => .stuck) Q := o
    unfold progOf at o
    rw [hq] at o
    have o : OG T (RvN T H) E w₀ H (runF ⟨callN (progOf df) sub n, sub⟩ q.d rs mh) Q := o
    unfold runF at o
    split at o
    · rename_i hh
      obtain ⟨g1, g2, g3⟩ := hh
      have R0 := start_rel (N := q.N) (ns := q.d.ns) R r g3 h4
      rw [g1] at R0
      have sg := OG.sg o
      have tk := takes_of (X := cxOf (L2.CX P w) P w K mg base q.N q.name (defScope q.st) fa cdv A outer s H E) (E := E) rfl rfl rfl rfl
      have ps := passes_of (X := cxOf (L2.CX P w) P w K mg base q.N q.name (defScope q.st) fa cdv A outer s H E) (K := fun e s'' => L2.CX P w outer H s E e s'') rfl
      have cnd : CndS (mcOf tb q) (cxOf (L2.CX P w) P w K mg base q.N q.name (defScope q.st) fa cdv A outer s H E) ⟨T, ⟨w₀, H⟩, fun cls d _ H => E cls d H⟩ ⟨callN (progOf df) sub n, sub⟩ := {
        c := {
          sc := rfl
          N := rfl
          ow := fun _ _ => rfl
          cm := rfl
          g := F.g
          u := by have := hr.un; show (A.deeper _).units + 200 < cLine; omega
          nd := S.nd
          fk := S.kind
          tk := tk
          bl := F.bl
          ty := F.ty
          bi := F.bi
          br := F.br
          bz := F.bz
          be := F.be
          fn := fun f x k h _ => F.fnAt (Facts.ok F n) (X := cxOf (L2.CX P w) P w K mg base q.N q.name (defScope q.st) fa cdv A outer s H E) rfl rfl rfl rfl rfl hr f x k h
          gl := F.gl
          cx := fun _ => F.ex
          cn := fun c x own h => by
            obtain ⟨c1, cv, c2, c3, c4, c5⟩ := F.cn c x own h
            exact ⟨c1, cv, c2, c3, fun z => let ⟨d1, d2, d3, d4, d5⟩ := c4 z; ⟨d1, d2, d3, d4, d5, c1⟩, c5⟩
          xi := fun a D e => by
            have e : T.ex = some (a, .ref D, none) := e
            rw [F.ex] at e; cases e }
        ps := fun _ => ps
        stk := rfl
        fr := rfl
        ec := F.ec }
      exact ⟨_, sdSs q.d.body _ _ _ cnd _ h1, w₀, _, mh, R0, sg⟩
    · exact o.elim
end
end Mn
end
section
set_option linter.all false
set_option autoImplicit false
set_option maxRecDepth 100000
/-! Mini: what the head says; a law's end. -/
namespace Mn
open PySem PySem.Spec PyProof.Rows L2

/-! ### the head's Hook -/
def isListO (o : Obj) : Bool := match o.cls with
  | .type c => decide (c = "list")
  | _ => false
def frM (g : Addr → Option Obj) (n : Nat) : PySem.W.Frag := (He.frG g (He.asD g n)).filter fun p => !isListO p.2
theorem lookup_mem {κ α : Type} [BEq κ] [LawfulBEq κ] : ∀ {l : List (κ × α)} {a : κ} {o : α}, l.lookup a = some o → (a, o) ∈ l
  | (b, u) :: r, a, o, h => by
    rw [List.lookup_cons] at h
    cases e : a == b with
    | true => rw [e] at h; cases h; rw [eq_of_beq e]; exact List.mem_cons_self
    | false => rw [e] at h; exact List.mem_cons_of_mem _ (lookup_mem h)
theorem frG_mem {g : Addr → Option Obj} {as : List Addr} {p : Addr × Obj} (h : p ∈ He.frG g as) : g p.1 = some p.2 := by
  unfold He.frG at h
  obtain ⟨a, _, e⟩ := List.mem_filterMap.mp h
  cases q : g a with
  | none => rw [q] at e; cases e
  | some o => rw [q] at e; cases e; exact q
theorem frM_in {h : Heap} {n : Nat} : (frM h.get? n).In h := fun a o e => frG_mem (p := (a, o)) (List.mem_filter.mp (lookup_mem e)).1
def noList (K : PySem.W.Frag) : Prop := ∀ a o, K.lookup a = some o → isListO o = false
theorem frM_no {g : Addr → Option Obj} {n : Nat} : noList (frM g n) := fun a o e => by
  have := (List.mem_filter.mp (lookup_mem e)).2
  simpa using this
abbrev AlM : Type := He.AlD × Bool
def obsM (n : Nat) (fa : List He.Fa) (fn : List He.DefD) (ex : PySem.W.Frag → Bool) (g : Addr → Option Obj) : AlM := (He.obsD fa fn (frM g n), ex (frM g n))
def valM (fn : List He.DefD) : AlM := (He.valD fn, true)
def hookM (n : Nat) (fa : List He.Fa) (fn : List He.DefD) (ex : PySem.W.Frag → Bool) : PySem.W.Hook where
  α := AlM
  obs := fun s => obsM n fa fn ex s.heap.get?
  val := fun _ => valM fn
  says := fun _ h => ∃ K : PySem.W.Frag, K.In h ∧ noList K ∧ He.SaysD fa fn K ∧ ex K = true
  of := fun _ _ e => ⟨_, frM_in, frM_no, congrArg (fun z : AlM => z.1) e, congrArg (fun z : AlM => z.2) e⟩
  keeps := fun _ _ _ ⟨K, hK, c⟩ k => ⟨K, PySem.W.Frag.In.keeps hK k, c⟩
theorem obsM_eq {n : Nat} {fa : List He.Fa} {fn : List He.DefD} {ex : PySem.W.Frag → Bool} {g : Addr → Option Obj} {s : Shared} (h : ∀ a, g a = s.heap.get? a) : obsM n fa fn ex g = (hookM n fa fn ex).obs s := by
  have e : g = s.heap.get? := funext h
  rw [e] <;> rfl

/-! ### what is given of a law -/
structure Law where
  df : List Df
  cl : List (Nat × (Str × Bool))
  bs : Str
  sub : List ((Nat × Nat) × Bool)
  gl : List (Nat × (Str × Str))
def Law.tb (l : Law) : Tab := ⟨fun f => (dfAt l.df f).map fun q => (q.name, q.ps.length), fun c => l.cl.lookup c, fun k => (l.gl.lookup k).map fun q => (q.1, .str q.2)⟩
def Law.subF (l : Law) (y c : Nat) : Option Bool := l.sub.lookup (y, c)
def bltNames : List Str := ["len", "sorted", "all", "any", "abs", "min", "tuple", "list", "dict", "int", "str", "bool", "isinstance", "range", "zip", "enumerate"]
def Law.fa (l : Law) : List He.Fa := l.df.map (fun q => He.Fa.glo q.name) ++ (bltNames.map He.Fa.free ++ (((l.cl.map (·.2)).filter fun q => q.2).flatMap (fun q => [He.Fa.glo q.1, He.Fa.exc q.1]) ++ (((l.cl.map (·.2)).filter fun q => !q.2).map (fun q => He.Fa.free q.1) ++ l.gl.map fun q => He.Fa.str q.2.1 q.2.2)))
def Law.fn (l : Law) : List He.DefD := l.df.map fun q => ⟨(q.name, none), q.name, q.name, defArgs q.st, defBody q.st, defScope q.st, [], []⟩
def Law.ca (l : Law) (K : PySem.W.Frag) (y : Nat) : Addr := match l.cl.lookup y with
  | some (x, true) => He.ga K x
  | _ => He.ga K l.bs
def clsVal (K : PySem.W.Frag) (q : Str × Bool) : Value := if q.2 then .ref (He.ga K q.1) else (bootBuiltins q.1).getD .none
def excB (K : PySem.W.Frag) (D : Addr) : Bool :=
  He.eqO (PySem.W.findIn K (.ref D) "__getattribute__") (some (some (.builtin "BaseException.__getattribute__"))) && He.eqO (PySem.W.findIn K (.ref D) "__getattr__") (some none) &&
  decide (PySem.W.subIn K (.ref D) (.type "BaseException") = some true) && PySem.W.hasDictIn K D && He.eqO (PySem.W.findIn K (.ref D) "__class__") (some (some (.builtin "object.__class__"))) &&
  He.eqO (PySem.W.specialIn K (.builtin "object.__class__") "__get__") (some (some (.builtin "getset_descriptor.__get__"))) && decide (PySem.W.takesIn K (.builtin "object.__class__") = some true) && decide (PySem.W.mroIn K D (.type "object") = some true)
theorem exc_of {K : PySem.W.Frag} {D : Addr} (h : excB K D = true) : ExcC K D := by
  unfold excB at h
  simp only [Bool.and_eq_true, decide_eq_true_eq] at h
  obtain ⟨⟨⟨⟨⟨⟨⟨h1, h2⟩, h3⟩, h4⟩, h5⟩, h6⟩, h7⟩, h8⟩ := h
  exact ⟨He.eqO_ok h1, He.eqO_ok h2, h3, h4, He.eqO_ok h5, He.eqO_ok h6, h7, h8⟩
def Law.ex (l : Law) (K : PySem.W.Frag) : Bool := excB K (He.ga K l.bs) && (l.cl.all fun q => !q.2.2 || excB K (He.ga K q.2.1)) &&
  l.sub.all fun p => match l.cl.lookup p.1.2 with
    | some q => decide (PySem.W.exmOne K (.ref (l.ca K p.1.1)) (clsVal K q) = some p.2) && decide (PySem.W.kitOne K (.ref (l.ca K p.1.1)) (clsVal K q) = some p.2)
    | none => true
def isTypeV : Option Value → Bool
  | some (.type _) => true
  | _ => false
/-- what is looked at without the heap -/
def Law.okB (l : Law) : Bool := (l.df.all fun q => dfB l.tb q) && (l.cl.all fun q => !odd q.2.1 && (q.2.2 || (isTypeV (bootBuiltins q.2.1) && !decide (q.2.1 = "__name__")))) && l.gl.all fun q => !odd q.2.1
def BindOk (q : Df) : Prop := ∀ (kV doc pm : Value) (an : Option Addr) (cdv ct : Value) (us : List Value), us.length = q.ps.length → bindArgs (PySem.W.fnOf q.name q.name (defArgs q.st) (defBody q.st) (defScope q.st) .none kV doc pm an cdv ct) ⟨us, []⟩ = pure (q.ps.zip us)
section
variable {P : Program} {w : World} {K : PySem.W.Frag} {h : Heap} {mg : Str → Option Value} {l : Law}
theorem Law.facts (l : Law) (hk : l.okB = true) (hb : ∀ q ∈ l.df, BindOk q) (X : K.In h) (G : h.Ns mainGlobals mg) (c : He.SaysD l.fa l.fn K) (ex : l.ex K = true) : Facts P w K mg ⟨⟨P, w⟩, l.ca K, fun _ => Str.empty, fun _ => Str.empty, none⟩ l.subF l.tb l.df := by
  unfold Law.okB at hk
  simp only [Bool.and_eq_true, List.all_eq_true] at hk
  obtain ⟨⟨k1, k2⟩, k3⟩ := hk
  unfold Law.ex at ex
  simp only [Bool.and_eq_true, List.all_eq_true] at ex
  obtain ⟨⟨x1, x2⟩, x3⟩ := ex
  have free : ∀ x ∈ bltNames, mg x = none := fun x hx => He.free_ok X G (c.facts (f := .free x) (List.mem_append_right _ (List.mem_append_left _ (List.mem_map_of_mem hx))))
  have own : ∀ q ∈ l.cl.map (·.2), q.2 = true → mg q.1 = some (.ref (He.ga K q.1)) ∧ (He.Fa.exc q.1).ok K = true := fun q hq h2 => by
    have hm : q ∈ (l.cl.map (·.2)).filter fun q => q.2 := List.mem_filter.mpr ⟨hq, h2⟩
    have a1 : He.Fa.glo q.1 ∈ l.fa := List.mem_append_right _ (List.mem_append_right _ (List.mem_append_left _ (List.mem_flatMap.mpr ⟨q, hm, List.mem_cons_self⟩)))
    have a2 : He.Fa.exc q.1 ∈ l.fa := List.mem_append_right _ (List.mem_append_right _ (List.mem_append_left _ (List.mem_flatMap.mpr ⟨q, hm, List.mem_cons_of_mem _ List.mem_cons_self⟩)))
    exact ⟨He.glo_ok X G (c.facts a1), c.facts a2⟩
  have ec : ∀ y, ExcC K (l.ca K y) := fun y => by
    unfold Law.ca
    split
    · rename_i x e
      have := x2 _ (lookup_mem e)
      simp at this
      exact exc_of this
    · exact exc_of x1
  refine ⟨rfl, rfl, fun b => free _ (by cases b <;> decide), fun t ht => free _ (by cases t <;> first | exact absurd rfl ht | decide), free _ (by decide), free _ (by decide), free _ (by decide), free _ (by decide), fun k x d e => ?_, fun cc x o e => ?_, ec, fun f => rfl, fun q hq => ?_⟩
  · cases q : l.gl.lookup k with
    | none => rw [show l.tb.gl k = (l.gl.lookup k).map fun q => (q.1, PyData.str q.2) from rfl, q] at e; cases e
    | some p =>
      rw [show l.tb.gl k = (l.gl.lookup k).map fun q => (q.1, PyData.str q.2) from rfl, q] at e
      cases e
      have hp := lookup_mem q
      have a : He.Fa.str p.1 p.2 ∈ l.fa := List.mem_append_right _ (List.mem_append_right _ (List.mem_append_right _ (List.mem_append_right _ (List.mem_map.mpr ⟨(k, p), hp, rfl⟩))))
      obtain ⟨t, ht⟩ := He.str_ok X G (c.facts a)
      have ho := k3 (k, p) hp
      simp only [Bool.not_eq_true'] at ho
      exact ⟨.str p.2, _, ht, ⟨t, rfl⟩, (odd_of ho).1, fun F H => .str _⟩
  · have e : l.cl.lookup cc = some (x, o) := e
    have hm' := lookup_mem e
    have hm : (x, o) ∈ l.cl.map (·.2) := List.mem_map.mpr ⟨_, hm', rfl⟩
    have h2 := k2 _ hm'
    simp only [Bool.and_eq_true, Bool.not_eq_true'] at h2
    obtain ⟨g1, g2⟩ := h2
    have subs : ∀ y b, l.subF y cc = some b → PySem.W.exmOne K (.ref (l.ca K y)) (clsVal K (x, o)) = some b ∧ PySem.W.kitOne K (.ref (l.ca K y)) (clsVal K (x, o)) = some b := fun y b hs => by
      have := x3 _ (lookup_mem hs)
      dsimp only at this
      rw [e] at this
      simp only [Bool.and_eq_true, decide_eq_true_eq] at this
      exact this
    refine ⟨(odd_of g1).1, clsVal K (x, o), ?_, ?_, ?_, subs⟩
    · cases o with
      | true => exact ⟨.ref (He.ga K x), rfl, fun u r => r⟩
      | false =>
        simp only [Bool.false_or, Bool.and_eq_true] at g2
        have g3 := g2.1
        show ∃ v, RelV v ((bootBuiltins x).getD .none) ∧ ∀ u, RelV v u → u = (bootBuiltins x).getD .none
        cases hbb : bootBuiltins x with
        | none => rw [hbb] at g3; cases g3
        | some v =>
          rw [hbb] at g3
          cases v <;> first | (exact ⟨.ty _, rfl, fun u r => r⟩) | cases g3
    · cases o with
      | true => exact .inl (own _ hm rfl).1
      | false =>
        simp only [Bool.false_or, Bool.and_eq_true, Bool.not_eq_true', decide_eq_false_iff_not] at g2
        have hmem : (x, false) ∈ (l.cl.map (·.2)).filter fun q => !q.2 := List.mem_filter.mpr ⟨hm, rfl⟩
        have a : He.Fa.free x ∈ l.fa := List.mem_append_right _ (List.mem_append_right _ (List.mem_append_right _ (List.mem_append_left _ (List.mem_map.mpr ⟨(x, false), hmem, rfl⟩))))
        refine .inr ⟨He.free_ok X G (c.facts a), ?_, g2.2⟩
        show bootBuiltins x = some ((bootBuiltins x).getD .none)
        cases hbb : bootBuiltins x with
        | none => have g3 := g2.1; rw [hbb] at g3; cases g3
        | some v => rfl
    · intro ho
      subst ho
      obtain ⟨o1, o2⟩ := own _ hm rfl
      obtain ⟨z1, z2, z3, z4⟩ := He.exc_ok o2
      have hca : l.ca K cc = He.ga K x := by unfold Law.ca; rw [e]
      show PySem.W.excIn K (l.ca K cc) veMro "ValueError.__new__" = true ∧ _
      show _ ∧ mg x = some (.ref (l.ca K cc)) ∧ PySem.W.keepIn K (.ref (l.ca K cc)) = true ∧ PySem.W.subIn K (.ref (l.ca K cc)) (.type "BaseException") = some true ∧ PySem.W.typeIn K (.ref (l.ca K cc)) = some (.type "type")
      rw [hca]
      exact ⟨z1, o1, z2, z3, z4⟩
  · have a : He.Fa.glo q.name ∈ l.fa := List.mem_append_left _ (List.mem_map.mpr ⟨q, hq, rfl⟩)
    have d : (⟨(q.name, none), q.name, q.name, defArgs q.st, defBody q.st, defScope q.st, [], []⟩ : He.DefD) ∈ l.fn := List.mem_map.mpr ⟨q, hq, rfl⟩
    obtain ⟨fd, FD⟩ := c.defs d
    exact ⟨k1 q hq, _, fd, FD, He.glo_ok X G (c.facts a), FunD.bindsN FD (hb q hq)⟩
/-- the script -/
def scriptD (ns : List Int) : PyData := .list (ns.map .int)
theorem dvA_ints {g : Pw} {F : Addr → Prop} {H : Hp} : ∀ ns : List Int, DvA g F H (ns.map V.int) (ns.map PyData.int)
  | [] => .nil
  | n :: ns => .cons (.int n) (dvA_ints ns)
theorem FnOk.cx {base : Heap} {CX CX' : CXT} {k : Nat} {f : Addr} {fd : FuncData} {ps : List Str} {sp : Sp} (F : FnOk P w K mg base CX k f fd ps sp) (h : ∀ o H s E e s', CX o H s E e s' → CX' o H s E e s') : FnOk P w K mg base CX' k f fd ps sp :=
  ⟨F.len, fun A outer s H args us vs Q E hr e0 hb r hsp => codeAny_mono (F.run A outer s H args us vs Q E hr e0 hb r hsp) fun r s' hq => by
    cases r with
    | error e => exact h _ _ _ _ _ _ hq
    | ok fl => cases fl <;> exact hq⟩
/-- a law's end: what its def answers is True -/
theorem Law.walk {L : PySem.W.OpenLaw} {q : Program} {loose : List Str} {XP : (Str → Option Value) → Heap → Prop} {d : DefRec} {n k : Nat} {f : Nat} {dq : Df} (l : Law) (N : Nat) (hk : l.okB = true) (hb : ∀ q ∈ l.df, BindOk q)
    (hn : L.most = some n) (hn2 : n ≤ sizeLine) (hdf : d.params.defaults = []) (hr : Room k callerA) (hf : dfAt l.df f = some dq) (hname : d.name = dq.name) (hps : ∃ x, dq.ps = [x])
    (run : ∀ ns : List Int, ns.length ≤ n → ∃ mh, callN (progOf l.df) l.subF k f [.dat (scriptD ns)] [] = .ok (.dat (.bool true)) mh) :
    PySem.W.WalkO q loose XP (hookM N l.fa l.fn l.ex).says L.row.toRowW d [] (fun f vs => PySem.call f vs) := by
  obtain ⟨x, hx⟩ := hps
  have hmem := dfAt_mem hf
  refine L2.walk_ofE (l := L) (n := n) (k := k) (x := x) (CX := fun o H s E e s' => ∃ w, L2.CX L.prog w o H s E e s') hn hn2 hdf hr ?_ ?_
  · intro w mg fa h Y G hmg0
    obtain ⟨K, KX, nl, c, ex⟩ := Y
    have F : Facts L.prog w K mg _ l.subF l.tb l.df := l.facts hk hb KX G c ex
    obtain ⟨_, fa', fd, FD, hm, _⟩ := F.fn dq hmem
    have e : fa' = fa := by
      rw [← hname, hmg0] at hm
      cases hm; rfl
    subst e
    refine ⟨K, fd, spM ⟨⟨L.prog, w⟩, l.ca K, fun _ => Str.empty, fun _ => Str.empty, none⟩ dq.ps.length (callN (progOf l.df) l.subF k f), KX, fun s u => ?_, fun H a ns hl hO hS => ?_, fun base _ _ => ?_⟩
    · have := FunD.bindsA (ps := dq.ps) FD (hb dq hmem) s [u] (by rw [hx]; rfl)
      rw [hx] at this
      exact this
    · obtain ⟨mh, hrun⟩ := run ns hl
      have hrd : Rd H a (.lst (ns.map V.int)) := by
        rcases hS with h1 | ⟨o, its, nn, e1, e2, _⟩
        · exact h1
        · have := nl a o e1
          unfold isListO at this
          rw [e2] at this
          simp at this
      have hthere : ∃ o, H a = some o := by
        rcases hrd with e | ⟨o, e⟩
        · exact ⟨_, e⟩
        · exact ⟨_, e⟩
      refine ⟨⟨fun b => b = a, []⟩, [.dat (scriptD ns)], [], ⟨rfl, List.nodup_nil, fun b e => by subst e; exact hthere, fun b h => (by cases h), fun n c b h => (by simp at h), fun n c b h => (by simp at h)⟩, .cons ?_ .nil, by rw [hx]; rfl, ?_⟩
      · exact .lst rfl hrd (dvA_ints ns)
      · rw [hrun]
        intro w' v H' _ _ r
        cases r.1
        rfl
    · have := FnOk.cx (CX' := fun o H s E e s' => ∃ w, L2.CX L.prog w o H s E e s') (Facts.ok (base := base) F k f dq hf fa' fd FD) fun o H s E e s' h => ⟨w, h⟩
      rw [hx] at this ⊢
      exact this
  · intro H s e s' h
    obtain ⟨w, _, _, _, _, _, _, _, _, _, _, _, _, z⟩ := h
    exact z
end
end Mn
end
section
open PySem PySem.Spec PyProof.Rows L2
namespace Mn.Fn
def x_law_all : FDef := ⟨1, 6, (.cons (.asg (.nm 1) (.lst (.cons (.tup .nil) .nil))) (.cons (.for_ (.nm 2) (.of (.var 0)) (.cons (.asg (.nm 3) (.lst .nil)) (.cons (.for_ (.nm 4) (.of (.var 1)) (.cons (.asg (.nm 3) (.bin .Add (.var 3) (.comp (.bin .Add (.var 4) (.tup (.cons (.var 5) .nil))) (.nm 5) (.of (.idx (.var 2) (.cst (.int 1)))) (.cst (.bool true)) [5]))) .nil)) (.cons (.asg (.nm 1) (.var 3)) .nil)))) (.cons (.ret (.var 1)) .nil)))⟩
def x_law_draws : FDef := ⟨2, 9, (.cons (.asg (.nm 2) (.comp (.blt .abs (.cons (.blt .int (.cons (.var 3) .nil)) .nil)) (.nm 3) (.of (.slc false true (.var 0) (.cst .none) (.cst (.int 63)))) (.cst (.bool true)) [3])) (.cons (.if_ (.not_ (.var 2)) (.cons (.asg (.nm 2) (.lst (.cons (.cst (.int 0)) .nil))) .nil) .nil) (.cons (.asgO 4 (.blt .lst (.cons (.var 2) .nil))) (.cons (.asgO 5 (.lst .nil)) (.cons (.for_ (.nm 6) (.rng1 (.var 1)) (.cons (.asg (.nm 7) (.bin .Mod (.blt .int (.cons (.var 6) .nil)) (.blt .len (.cons (.var 2) .nil)))) (.cons (.if_ (.and_ (.cmp .GtE (.idx (.var 2) (.var 7)) (.bin .Pow (.cst (.int 10)) (.cst (.int 18)))) (.cmp .Gt (.idx (.var 4) (.var 7)) (.cst (.int 0)))) (.cons (.app 5 (.bin .Mod (.blt .int (.cons (.idx (.var 4) (.var 7)) .nil)) (.cst (.int 1000)))) (.cons (.setI 4 (.var 7) (.bin .FloorDiv (.idx (.var 4) (.var 7)) (.cst (.int 1000)))) .nil)) (.cons (.asg (.nm 8) (.bin .Mod (.blt .int (.cons (.bin .Add (.bin .Mult (.bin .Add (.idx (.var 2) (.var 7)) (.cst (.int 7))) (.cst (.int 48271))) (.bin .Mult (.bin .Add (.var 6) (.cst (.int 1))) (.cst (.int 69621)))) .nil)) (.cst (.int 2147483647)))) (.cons (.asg (.nm 8) (.bin .Mod (.blt .int (.cons (.bin .Add (.bin .Add (.bin .Mult (.var 8) (.cst (.int 16807))) (.bin .Mult (.bin .Mult (.var 6) (.var 6)) (.cst (.int 40692)))) (.cst (.int 12345))) .nil)) (.cst (.int 2147483399)))) (.cons (.app 5 (.bin .FloorDiv (.var 8) (.cst (.int 64)))) .nil)))) .nil))) (.cons (.retM (.var 5)) .nil))))))⟩
def x_law_edit : FDef := ⟨3, 5, (.cons (.asgO 3 (.lst .nil)) (.cons (.for_ (.nm 4) (.of (.var 1)) (.cons (.if_ (.and_ (.cmp .Lt (.blt .len (.cons (.var 3) .nil)) (.var 2)) (.cmp .Eq (.call 103 (.cons (.var 0) (.cons (.cst (.int 2)) .nil))) (.cst (.int 1)))) (.cons (.app 3 (.tup (.cons (.idx (.var 4) (.cst (.int 0))) (.cons (.idx (.idx (.var 4) (.cst (.int 1))) (.call 103 (.cons (.var 0) (.cons (.blt .len (.cons (.idx (.var 4) (.cst (.int 1))) .nil)) .nil)))) .nil)))) .nil) .nil) .nil)) (.cons (.ret (.blt .tup (.cons (.var 3) .nil))) .nil)))⟩
def x_law_ground : FDef := ⟨2, 6, (.cons (.asgO 2 (.lst .nil)) (.cons (.asg (.nm 3) (.lst (.cons (.cst (.str "a")) (.cons (.cst (.str "b1")) (.cons (.cst (.str "c")) (.cons (.cst (.str "dd")) (.cons (.cst (.str "e")) .nil))))))) (.cons (.for_ (.nm 4) (.rng1 (.bin .Add (.bin .Add (.cst (.int 1)) (.blt .int (.cons (.cmp .Gt (.call 103 (.cons (.var 0) (.cons (.cst (.int 9)) .nil))) (.cst (.int 0))) .nil))) (.call 103 (.cons (.var 0) (.cons (.bin .Sub (.var 1) (.cst (.int 1))) .nil))))) (.cons (.asg (.nm 5) (.idx (.lst (.cons (.tup (.cons (.cst (.str "0")) (.cons (.cst (.str "1")) .nil))) (.cons (.tup (.cons (.cst (.str "no")) (.cons (.cst (.str "yes")) .nil))) (.cons (.tup (.cons (.cst (.str "x")) (.cons (.cst (.str "y")) (.cons (.cst (.str "z")) .nil)))) (.cons (.tup (.cons (.cst (.str "0")) (.cons (.cst (.str "1")) .nil))) (.cons (.tup (.cons (.cst (.str "2a")) (.cons (.cst (.str "b")) .nil))) (.cons (.tup (.cons (.cst (.str "u")) .nil)) .nil))))))) (.call 103 (.cons (.var 0) (.cons (.cst (.int 6)) .nil))))) (.cons (.app 2 (.tup (.cons (.idx (.var 3) (.var 4)) (.cons (.var 5) .nil)))) .nil))) (.cons (.ret (.blt .tup (.cons (.var 2) .nil))) .nil))))⟩
def x_law_has : FDef := ⟨3, 5, (.cons (.asg (.nm 3) (.pcall 154 (.cons (.var 0) (.cons (.var 1) .nil)))) (.cons (.ret (.cmp .Eq (.comp (.var 4) (.nm 4) (.of (.var 2)) (.cmp .NotEq (.idx (.var 3) (.idx (.var 4) (.cst (.int 0)))) (.idx (.var 4) (.cst (.int 1)))) [4]) (.lst .nil))) .nil))⟩
def x_law_is_no_ground : FDef := ⟨1, 4, (.cons (.asgO 1 (.lst .nil)) (.cons (.for_ (.nm 2) (.of (.lst (.cons (.cst (.str "state")) (.cons (.cst (.str "edit")) .nil)))) (.cons (.try_ (.cons (.if_ (.cmp .Eq (.var 2) (.cst (.str "state"))) (.cons (.expr (.pcall 284 (.cons (.var 0) (.cons (.cst .none) .nil)))) .nil) (.cons (.expr (.pcall 251 (.cons (.var 0) (.cons (.cst .none) .nil)))) .nil)) .nil) 5 (some 3) (.cons (.app 1 (.and_ (.isx 3 15) (.isx 3 38))) .nil)) .nil)) (.cons (.ret (.cmp .Eq (.var 1) (.lst (.cons (.cst (.bool true)) (.cons (.cst (.bool true)) .nil))))) .nil)))⟩
def x_law_next : FDef := ⟨2, 2, (.cons (.if_ (.not_ (.var 0)) (.cons (.ret (.cst (.int 0))) .nil) .nil) (.cons (.ret (.bin .Mod (.blt .int (.cons (.popA (.var 0) (.cons (.cst (.int 0)) .nil)) .nil)) (.var 1))) .nil))⟩
def x_law_state : FDef := ⟨2, 3, (.cons (.ret (.blt .tup (.cons (.comp (.idx (.idx (.var 2) (.cst (.int 1))) (.call 103 (.cons (.var 0) (.cons (.blt .len (.cons (.idx (.var 2) (.cst (.int 1))) .nil)) .nil)))) (.nm 2) (.of (.var 1)) (.cst (.bool true)) [2]) .nil))) .nil)⟩
def x_law_told : FDef := ⟨2, 4, (.cons (.asgO 2 (.dsp .nil)) (.cons (.for_ (.nm 3) (.rng1 (.blt .len (.cons (.var 0) .nil))) (.cons (.setI 2 (.idx (.idx (.var 0) (.var 3)) (.cst (.int 0))) (.idx (.var 1) (.var 3))) .nil)) (.cons (.ret (.var 2)) .nil)))⟩
def x_law_wide : FDef := ⟨1, 2, (.cons (.ret (.blt .tup (.cons (.comp (.tup (.cons (.bin .Add (.cst (.str "n")) (.blt .str (.cons (.bin .Add (.cst (.int 100)) (.var 1)) .nil))) (.cons (.tup (.cons (.cst (.str "0")) (.cons (.cst (.str "1")) .nil))) .nil))) (.nm 1) (.rng1 (.var 0)) (.cst (.bool true)) [1]) .nil))) .nil)⟩
def x_law_wrong_edits : FDef := ⟨2, 4, (.cons (.asg (.nm 2) (.tup (.cons (.idx (.idx (.var 0) (.cst (.int 0))) (.cst (.int 0))) (.cons (.idx (.var 1) (.cst (.int 0))) .nil)))) (.cons (.asgO 3 (.lst (.cons (.cst .none) (.cons (.var 2) (.cons (.lst (.cons (.var 2) .nil)) (.cons (.tup (.cons (.var 2) (.cons (.var 2) .nil))) (.cons (.tup (.cons (.tup (.cons (.idx (.var 2) (.cst (.int 0))) .nil)) .nil)) (.cons (.tup (.cons (.tup (.cons (.idx (.var 2) (.cst (.int 0))) (.cons (.idx (.var 2) (.cst (.int 1))) (.cons (.cst (.int 0)) .nil)))) .nil)) (.cons (.tup (.cons (.tup (.cons (.cst (.str "zz")) (.cons (.idx (.var 2) (.cst (.int 1))) .nil))) .nil)) (.cons (.tup (.cons (.tup (.cons (.idx (.var 2) (.cst (.int 0))) (.cons (.cst (.str "?")) .nil))) .nil)) .nil)))))))))) (.cons (.asgO 3 (.cat (.var 3) (.lst (.cons (.tup (.cons (.tup (.cons (.idx (.var 2) (.cst (.int 0))) (.cons (.cst .none) .nil))) .nil)) (.cons (.tup (.cons (.tup (.cons (.cst (.int 0)) (.cons (.idx (.var 2) (.cst (.int 1))) .nil))) .nil)) (.cons (.tup (.cons (.blt .lst (.cons (.var 2) .nil)) .nil)) (.cons (.tup (.cons (.tup (.cons (.idx (.var 2) (.cst (.int 0))) (.cons (.tup (.cons (.idx (.var 2) (.cst (.int 1))) .nil)) .nil))) .nil)) (.cons (.cst (.str "ab")) (.cons (.cst (.int 0)) (.cons (.tup (.cons (.tup (.cons (.cst .none) (.cons (.cst .none) .nil))) .nil)) .nil)))))))))) (.cons (.if_ (.cmp .Gt (.blt .len (.cons (.var 0) .nil)) (.cst (.int 1))) (.cons (.app 3 (.tup (.cons (.tup (.cons (.idx (.idx (.var 0) (.cst (.int 1))) (.cst (.int 0))) (.cons (.idx (.var 1) (.cst (.int 1))) .nil))) (.cons (.var 2) .nil)))) .nil) .nil) (.cons (.ret (.var 3)) .nil)))))⟩
def x_law_wrong_grounds : FDef := ⟨1, 4, (.cons (.asg (.nm 1) (.idx (.var 0) (.cst (.int 0)))) (.cons (.asg (.nm 2) (.lst (.cons (.cst .none) (.cons (.tup .nil) (.cons (.cst (.str "a")) (.cons (.blt .lst (.cons (.var 0) .nil)) (.cons (.bin .Add (.var 0) (.var 0)) (.cons (.tup (.cons (.idx (.var 1) (.cst (.int 0))) (.cons (.idx (.var 1) (.cst (.int 1))) .nil))) (.cons (.tup (.cons (.tup (.cons (.idx (.var 1) (.cst (.int 0))) .nil)) .nil)) (.cons (.tup (.cons (.tup (.cons (.idx (.var 1) (.cst (.int 0))) (.cons (.idx (.var 1) (.cst (.int 1))) (.cons (.cst (.int 0)) .nil)))) .nil)) .nil)))))))))) (.cons (.asg (.nm 2) (.bin .Add (.var 2) (.lst (.cons (.tup (.cons (.tup (.cons (.idx (.var 1) (.cst (.int 0))) (.cons (.blt .lst (.cons (.idx (.var 1) (.cst (.int 1))) .nil)) .nil))) .nil)) (.cons (.tup (.cons (.tup (.cons (.idx (.var 1) (.cst (.int 0))) (.cons (.tup .nil) .nil))) .nil)) (.cons (.tup (.cons (.tup (.cons (.cst (.str "1a")) (.cons (.tup (.cons (.cst (.str "0")) .nil)) .nil))) .nil)) (.cons (.tup (.cons (.tup (.cons (.cst (.str "")) (.cons (.tup (.cons (.cst (.str "0")) .nil)) .nil))) .nil)) (.cons (.tup (.cons (.tup (.cons (.cst (.str "A")) (.cons (.tup (.cons (.cst (.str "0")) .nil)) .nil))) .nil)) .nil)))))))) (.cons (.asg (.nm 2) (.bin .Add (.var 2) (.lst (.cons (.tup (.cons (.tup (.cons (.cst (.str "abcdefghi")) (.cons (.tup (.cons (.cst (.str "0")) .nil)) .nil))) .nil)) (.cons (.tup (.cons (.tup (.cons (.cst (.int 7)) (.cons (.tup (.cons (.cst (.str "0")) .nil)) .nil))) .nil)) (.cons (.tup (.cons (.tup (.cons (.cst (.str "a")) (.cons (.tup (.cons (.cst (.str "0")) (.cons (.cst (.str "0")) .nil))) .nil))) .nil)) (.cons (.tup (.cons (.tup (.cons (.cst (.str "a")) (.cons (.tup (.cons (.cst (.str "1")) (.cons (.cst (.str "0")) .nil))) .nil))) .nil)) (.cons (.tup (.cons (.tup (.cons (.cst (.str "a")) (.cons (.tup (.cons (.cst (.str "")) .nil)) .nil))) .nil)) .nil)))))))) (.cons (.asg (.nm 2) (.bin .Add (.var 2) (.lst (.cons (.tup (.cons (.tup (.cons (.cst (.str "a")) (.cons (.tup (.cons (.cst (.str "x_")) .nil)) .nil))) .nil)) (.cons (.tup (.cons (.tup (.cons (.cst (.str "a")) (.cons (.tup (.cons (.cst (.int 0)) .nil)) .nil))) .nil)) (.cons (.tup (.cons (.tup (.cons (.cst (.str "b")) (.cons (.tup (.cons (.cst (.str "0")) .nil)) .nil))) (.cons (.tup (.cons (.cst (.str "a")) (.cons (.tup (.cons (.cst (.str "0")) .nil)) .nil))) .nil))) (.cons (.tup (.cons (.tup (.cons (.cst (.str "a")) (.cons (.cst (.str "0")) .nil))) .nil)) (.cons (.tup (.cons (.lst (.cons (.idx (.var 1) (.cst (.int 0))) (.cons (.idx (.var 1) (.cst (.int 1))) .nil))) .nil)) .nil)))))))) (.cons (.asg (.nm 2) (.bin .Add (.var 2) (.lst (.cons (.tup (.cons (.tup (.cons (.cst (.str "a")) (.cons (.blt .tup (.cons (.comp (.blt .str (.cons (.var 3) .nil)) (.nm 3) (.rng1 (.cst (.int 9))) (.cst (.bool true)) [3]) .nil)) .nil))) .nil)) (.cons (.tup (.cons (.tup (.cons (.cst (.str "a")) (.cons (.tup (.cons (.cst (.str "abcdefghi")) .nil)) .nil))) .nil)) (.cons (.pcall 165 (.cons (.cst (.int 41)) .nil)) (.cons (.dsp (.cons (.cst (.str "a")) (.cons (.tup (.cons (.cst (.str "0")) .nil)) .nil))) (.cons (.cst (.int 3)) (.cons (.cst (.bool true)) .nil))))))))) (.cons (.ret (.var 2)) .nil)))))))⟩
def x_law_wrong_states : FDef := ⟨2, 3, (.cons (.asg (.nm 2) (.lst (.cons (.cst .none) (.cons (.tup .nil) (.cons (.blt .lst (.cons (.var 1) .nil)) (.cons (.bin .Add (.var 1) (.slc false true (.var 1) (.cst .none) (.cst (.int 1)))) (.cons (.slc false true (.var 1) (.cst .none) (.bin .Sub (.blt .len (.cons (.var 1) .nil)) (.cst (.int 1)))) (.cons (.bin .Add (.tup (.cons (.cst (.str "?")) .nil)) (.slc true false (.var 1) (.cst (.int 1)) (.cst .none))) (.cons (.bin .Add (.tup (.cons (.cst .none) .nil)) (.slc true false (.var 1) (.cst (.int 1)) (.cst .none))) .nil))))))))) (.cons (.ret (.bin .Add (.var 2) (.lst (.cons (.mth .join (.cst (.str "")) (.cons (.var 1) .nil)) (.cons (.tup (.cons (.var 1) .nil)) (.cons (.bin .Add (.tup (.cons (.cst (.int 0)) .nil)) (.slc true false (.var 1) (.cst (.int 1)) (.cst .none))) (.cons (.dsp (.cons (.cst (.str "a")) (.cons (.cst (.int 0)) .nil))) (.cons (.bin .Add (.tup (.cons (.tup (.cons (.idx (.idx (.var 0) (.cst (.int 0))) (.cst (.int 0))) (.cons (.idx (.var 1) (.cst (.int 0))) .nil))) .nil)) (.slc true false (.var 1) (.cst (.int 1)) (.cst .none))) .nil)))))))) .nil))⟩
def ask_ground : FDef := ⟨1, 1, (.cons (.if_ (.not_ (.pcall 259 (.cons (.var 0) .nil))) (.cons (.raise 15 .nil) .nil) .nil) .nil)⟩
def is_edit : FDef := ⟨2, 2, (.cons (.expr (.pcall 190 (.cons (.var 0) .nil))) (.cons (.ret (.pcall 253 (.cons (.var 0) (.cons (.var 1) .nil)))) .nil))⟩
def is_edit_of : FDef := ⟨2, 6, (.cons (.if_ (.not_ (.isi (.var 1) .tup)) (.cons (.ret (.cst (.bool false))) .nil) .nil) (.cons (.asg (.nm 2) (.blt .dct (.cons (.var 0) .nil))) (.cons (.for_ (.nm 3) (.of (.var 1)) (.cons (.if_ (.or_ (.not_ (.pcall 274 (.cons (.var 3) .nil))) (.or_ (.not_ (.isi (.idx (.var 3) (.cst (.int 0))) .str)) (.cmp .NotIn (.idx (.var 3) (.cst (.int 0))) (.var 2)))) (.cons (.ret (.cst (.bool false))) .nil) .nil) (.cons (.if_ (.not_ (.pcall 294 (.cons (.idx (.var 3) (.cst (.int 1))) (.cons (.idx (.var 2) (.idx (.var 3) (.cst (.int 0)))) .nil)))) (.cons (.ret (.cst (.bool false))) .nil) .nil) .nil))) (.cons (.ret (.pcall 280 (.cons (.comp (.var 4) (.cons (.nm 4) (.cons (.nm 5) .nil)) (.of (.var 1)) (.cst (.bool true)) [4, 5]) .nil))) .nil))))⟩
def is_ground : FDef := ⟨1, 4, (.cons (.if_ (.or_ (.not_ (.isi (.var 0) .tup)) (.not_ (.chain .LtE .LtE (.cst (.int 1)) (.blt .len (.cons (.var 0) .nil)) (.cst (.int 40))))) (.cons (.ret (.cst (.bool false))) .nil) .nil) (.cons (.for_ (.nm 1) (.of (.var 0)) (.cons (.if_ (.or_ (.not_ (.pcall 274 (.cons (.var 1) .nil))) (.or_ (.not_ (.pcall 265 (.cons (.idx (.var 1) (.cst (.int 0))) .nil))) (.not_ (.pcall 296 (.cons (.idx (.var 1) (.cst (.int 1))) (.cons (.cst (.int 1)) (.cons (.cst (.int 8)) .nil))))))) (.cons (.ret (.cst (.bool false))) .nil) .nil) .nil)) (.cons (.ret (.pcall 280 (.cons (.comp (.var 2) (.cons (.nm 2) (.cons (.nm 3) .nil)) (.of (.var 0)) (.cst (.bool true)) [2, 3]) .nil))) .nil)))⟩
def is_name : FDef := ⟨1, 1, (.cons (.ret (.and_ (.pcall 295 (.cons (.var 0) .nil)) (.cmp .In (.idx (.var 0) (.cst (.int 0))) (.glb 0 (.str "abcdefghijklmnopqrstuvwxyz"))))) .nil)⟩
def is_pair : FDef := ⟨1, 1, (.cons (.ret (.and_ (.isi (.var 0) .tup) (.cmp .Eq (.blt .len (.cons (.var 0) .nil)) (.cst (.int 2))))) .nil)⟩
def is_rising : FDef := ⟨1, 2, (.cons (.ret (.blt .all (.cons (.comp (.cmp .Lt (.idx (.var 0) (.bin .Sub (.var 1) (.cst (.int 1)))) (.idx (.var 0) (.var 1))) (.nm 1) (.rng2 (.cst (.int 1)) (.blt .len (.cons (.var 0) .nil))) (.cst (.bool true)) [1]) .nil))) .nil)⟩
def is_state : FDef := ⟨2, 2, (.cons (.expr (.pcall 190 (.cons (.var 0) .nil))) (.cons (.ret (.pcall 285 (.cons (.var 0) (.cons (.var 1) .nil)))) .nil))⟩
def is_state_of : FDef := ⟨2, 4, (.cons (.if_ (.or_ (.not_ (.isi (.var 1) .tup)) (.cmp .NotEq (.blt .len (.cons (.var 1) .nil)) (.blt .len (.cons (.var 0) .nil)))) (.cons (.ret (.cst (.bool false))) .nil) .nil) (.cons (.ret (.blt .all (.cons (.comp (.pcall 294 (.cons (.var 2) (.cons (.idx (.var 3) (.cst (.int 1))) .nil))) (.cons (.nm 2) (.cons (.nm 3) .nil)) (.zip2 (.var 1) (.var 0)) (.cst (.bool true)) [2, 3]) .nil))) .nil))⟩
def is_word : FDef := ⟨2, 2, (.cons (.ret (.and_ (.isi (.var 0) .str) (.cmp .In (.var 0) (.var 1)))) .nil)⟩
def is_worth : FDef := ⟨1, 2, (.cons (.ret (.and_ (.isi (.var 0) .str) (.and_ (.chain .LtE .LtE (.cst (.int 1)) (.blt .len (.cons (.var 0) .nil)) (.cst (.int 8))) (.blt .all (.cons (.comp (.cmp .In (.var 1) (.glb 11 (.str "abcdefghijklmnopqrstuvwxyz0123456789"))) (.nm 1) (.of (.var 0)) (.cst (.bool true)) [1]) .nil))))) .nil)⟩
def is_worths : FDef := ⟨3, 4, (.cons (.if_ (.or_ (.not_ (.isi (.var 0) .tup)) (.not_ (.chain .LtE .LtE (.var 1) (.blt .len (.cons (.var 0) .nil)) (.var 2)))) (.cons (.ret (.cst (.bool false))) .nil) .nil) (.cons (.ret (.and_ (.blt .all (.cons (.comp (.pcall 295 (.cons (.var 3) .nil)) (.nm 3) (.of (.var 0)) (.cst (.bool true)) [3]) .nil)) (.pcall 280 (.cons (.var 0) .nil)))) .nil))⟩
def x_law : FDef := ⟨1, 9, (.cons (.asgH 1 (.pcall 31 (.cons (.var 0) (.cons (.cst (.int 120)) .nil)))) (.cons (.asg (.nm 2) (.call 50 (.cons (.var 1) (.cons (.cst (.int 5)) .nil)))) (.cons (.asg (.nm 3) (.call 143 (.cons (.var 1) (.cons (.var 2) .nil)))) (.cons (.asg (.nm 4) (.lst (.cons (.var 2) (.cons (.pcall 165 (.cons (.cst (.int 40)) .nil)) (.cons (.tup (.cons (.tup (.cons (.cst (.str "abcdefgh")) (.cons (.tup (.cons (.cst (.str "0")) (.cons (.cst (.str "abcdefgh")) (.cons (.cst (.str "z9z")) .nil)))) .nil))) .nil)) (.cons (.tup (.cons (.tup (.cons (.cst (.str "a")) (.cons (.blt .tup (.cons (.comp (.blt .str (.cons (.var 5) .nil)) (.nm 5) (.rng1 (.cst (.int 8))) (.cst (.bool true)) [5]) .nil)) .nil))) .nil)) .nil)))))) (.cons (.for_ (.nm 6) (.of (.var 4)) (.cons (.if_ (.or_ (.cmp .IsNot (.pcall 259 (.cons (.var 6) .nil)) (.cst (.bool true))) (.cmp .IsNot (.pcall 284 (.cons (.var 6) (.cons (.blt .tup (.cons (.comp (.idx (.idx (.var 7) (.cst (.int 1))) (.cst (.int 0))) (.nm 7) (.of (.var 6)) (.cst (.bool true)) [7]) .nil)) .nil))) (.cst (.bool true)))) (.cons (.ret (.cst (.bool false))) .nil) .nil) (.cons (.if_ (.or_ (.cmp .IsNot (.pcall 251 (.cons (.var 6) (.cons (.tup .nil) .nil))) (.cst (.bool true))) (.cmp .IsNot (.pcall 251 (.cons (.var 6) (.cons (.blt .tup (.cons (.comp (.tup (.cons (.idx (.var 7) (.cst (.int 0))) (.cons (.idx (.idx (.var 7) (.cst (.int 1))) (.cst (.int 0))) .nil))) (.nm 7) (.of (.var 6)) (.cst (.bool true)) [7]) .nil)) .nil))) (.cst (.bool true)))) (.cons (.ret (.cst (.bool false))) .nil) .nil) .nil))) (.cons (.for_ (.nm 8) (.of (.pcall 171 (.cons (.var 2) .nil))) (.cons (.if_ (.or_ (.cmp .IsNot (.pcall 259 (.cons (.var 8) .nil)) (.cst (.bool false))) (.not_ (.pcall 68 (.cons (.var 8) .nil)))) (.cons (.ret (.cst (.bool false))) .nil) .nil) .nil)) (.cons (.for_ (.nm 8) (.of (.pcall 173 (.cons (.var 2) (.cons (.var 3) .nil)))) (.cons (.if_ (.cmp .IsNot (.pcall 284 (.cons (.var 2) (.cons (.var 8) .nil))) (.cst (.bool false))) (.cons (.ret (.cst (.bool false))) .nil) .nil) .nil)) (.cons (.for_ (.nm 8) (.of (.pcall 170 (.cons (.var 2) (.cons (.var 3) .nil)))) (.cons (.if_ (.cmp .IsNot (.pcall 251 (.cons (.var 2) (.cons (.var 8) .nil))) (.cst (.bool false))) (.cons (.ret (.cst (.bool false))) .nil) .nil) .nil)) (.cons (.for_ (.nm 5) (.rng1 (.cst (.int 4))) (.cons (.if_ (.or_ (.cmp .IsNot (.pcall 251 (.cons (.var 2) (.cons (.call 33 (.cons (.var 1) (.cons (.var 2) (.cons (.cst (.int 5)) .nil)))) .nil))) (.cst (.bool true))) (.cmp .IsNot (.pcall 284 (.cons (.var 2) (.cons (.call 143 (.cons (.var 1) (.cons (.var 2) .nil))) .nil))) (.cst (.bool true)))) (.cons (.ret (.cst (.bool false))) .nil) .nil) .nil)) (.cons (.ret (.cmp .Is (.pcall 259 (.cons (.var 2) .nil)) (.cst (.bool true)))) .nil))))))))))⟩
end Mn.Fn
end
section
set_option linter.all false
set_option autoImplicit false
set_option maxRecDepth 100000
/-! Mini, plain: what the evaluator's parts come to. -/
namespace Mn
open PySem

/-! ### the evaluator's rows -/
/-- a loop's turns -/
def forB (C : CallF) (t : Tg) (body : Ss) (xs : List PyData) (env : MEnv) (mh : MH) : SO := forL t (fun env mh => evSs C body env mh) xs env mh
section
variable {C : CallF}
@[simp] theorem evP_var (i : Nat) : evP C (.var i) = tv (fun env mh => match env[i]? with
    | some (some rv) => .ok rv mh
    | _ => .stuck) := rfl
@[simp] theorem evP_cst (d : PyData) : evP C (.cst d) = (fun _ mh => .ok (.dat d) mh, fun _ mh => ofT (truD d) mh) := rfl
@[simp] theorem evP_glb (k : Nat) (d : PyData) : evP C (.glb k d) = tv (fun _ mh => .ok (.dat d) mh) := rfl
@[simp] theorem evP_and_ (a b : E) : evP C (.and_ a b) = (fun env mh => ((evP C a).1 env mh).bind fun r mh => match r with
    | .dat (.bool true) => (evP C b).1 env mh
    | .dat (.bool false) => .ok (.dat (.bool false)) mh
    | _ => .stuck,
    fun env mh => ((evP C a).2 env mh).bind fun r mh => match r with
    | true => (evP C b).2 env mh
    | false => .ok false mh) := rfl
@[simp] theorem evP_or_ (a b : E) : evP C (.or_ a b) = (fun env mh => ((evP C a).1 env mh).bind fun r mh => match r with
    | .dat (.bool false) => (evP C b).1 env mh
    | .dat (.bool true) => .ok (.dat (.bool true)) mh
    | _ => .stuck,
    fun env mh => ((evP C a).2 env mh).bind fun r mh => match r with
    | true => .ok true mh
    | false => (evP C b).2 env mh) := rfl
@[simp] theorem evP_not_ (a : E) : evP C (.not_ a) = (fun env mh => ((evP C a).1 env mh).bind fun x mh => match view mh x with
      | some d => ofB ((truD d).map not) mh
      | none => .stuck,
    fun env mh => ((evP C a).2 env mh).bind fun b mh => .ok (!b) mh) := rfl
@[simp] theorem evP_cmp (op : CmpOp) (a b : E) : evP C (.cmp op a b) = (fun env mh => ((evP C a).1 env mh).bind fun x mh => ((evP C b).1 env mh).bind fun y mh =>
      match view mh x, view mh y with
      | some d, some e => ofB (cmpD op d e) mh
      | _, _ => .stuck,
    fun env mh => ((evP C a).1 env mh).bind fun x mh => ((evP C b).1 env mh).bind fun y mh =>
      match view mh x, view mh y with
      | some d, some e => ofT (cmpD op d e) mh
      | _, _ => .stuck) := rfl
@[simp] theorem evP_bin (op : Operator) (a b : E) : evP C (.bin op a b) = tv (fun env mh => ((evP C a).1 env mh).bind fun x mh => ((evP C b).1 env mh).bind fun y mh =>
      match view mh x, view mh y with
      | some d, some e => ofD (binD op d e) mh
      | _, _ => .stuck) := rfl
@[simp] theorem evP_cat (a b : E) : evP C (.cat a b) = tv (fun env mh => ((evP C a).1 env mh).bind fun x mh => ((evP C b).1 env mh).bind fun y mh =>
      match view mh x, view mh y with
      | some (.list xs), some (.list ys) => if big (xs.length + ys.length) then .ok (.dat (.list (xs ++ ys))) mh else .stuck
      | _, _ => .stuck) := rfl
@[simp] theorem evP_neg (a : E) : evP C (.neg a) = tv (fun env mh => ((evP C a).1 env mh).bind fun x mh => match x with
      | .dat (.int i) => .ok (.dat (.int (-i))) mh
      | _ => .stuck) := rfl
@[simp] theorem evP_ite (c a b : E) : evP C (.ite c a b) = (fun env mh => ((evP C c).2 env mh).bind fun t mh => match t with
      | true => (evP C a).1 env mh
      | false => (evP C b).1 env mh,
    fun env mh => ((evP C c).2 env mh).bind fun t mh => match t with
      | true => (evP C a).2 env mh
      | false => (evP C b).2 env mh) := rfl
@[simp] theorem evP_tup (es : Es) : evP C (.tup es) = tv (fun env mh => (evEs C es env mh).bind fun ds mh => if big ds.length then .ok (.dat (.tuple ds)) mh else .stuck) := rfl
@[simp] theorem evP_lst (es : Es) : evP C (.lst es) = tv (fun env mh => (evEs C es env mh).bind fun ds mh => if big ds.length then .ok (.dat (.list ds)) mh else .stuck) := rfl
@[simp] theorem evP_dsp (es : Es) : evP C (.dsp es) = tv (fun env mh => (evEs C es env mh).bind fun ds mh => ofD (dspD ds) mh) := rfl
@[simp] theorem evP_idx (a b : E) : evP C (.idx a b) = tv (fun env mh => ((evP C a).1 env mh).bind fun x mh => ((evP C b).1 env mh).bind fun y mh =>
      match view mh x, view mh y with
      | some d, some e => ofD (idxD d e) mh
      | _, _ => .stuck) := rfl
@[simp] theorem evP_slc (lo hi : Bool) (a l h : E) : evP C (.slc lo hi a l h) = tv (fun env mh => ((evP C a).1 env mh).bind fun x mh => (partO lo (evP C l).1 env mh).bind fun p mh => (partO hi (evP C h).1 env mh).bind fun q mh =>
      match view mh x with
      | some d => ofD (sliD d p q) mh
      | none => .stuck) := rfl
@[simp] theorem evP_isi (a : E) (t : Ty) : evP C (.isi a t) = tv (fun env mh => ((evP C a).1 env mh).bind fun x mh => match view mh x with
      | some d => .ok (.dat (.bool (tyD t d))) mh
      | none => .stuck) := rfl
@[simp] theorem evP_isx (i c : Nat) : evP C (.isx i c) = tv (fun env mh => match env[i]? with
    | some (some (.xcp x none)) => ofB (C.sub x c) mh
    | _ => .stuck) := rfl
@[simp] theorem evP_xat (i c : Nat) : evP C (.xat i c) = tv (fun env mh => match env[i]? with
    | some (some (.xcp x (some d))) => if x = c then .ok (.dat d) mh else .stuck
    | _ => .stuck) := rfl
@[simp] theorem evP_blt (b : Blt) (es : Es) : evP C (.blt b es) = tv (fun env mh => (evVs C es env mh).bind fun rs mh => match views mh rs with
      | some ds => ofD (bltD b ds) mh
      | none => .stuck) := rfl
@[simp] theorem evP_mth (m : Mth) (o : E) (es : Es) : evP C (.mth m o es) = tv (fun env mh => ((evP C o).1 env mh).bind fun x mh => if mthTy m (view mh x) then (evEs C es env mh).bind fun ds mh => (match view mh x with
      | some d => ofD (mthD m d ds) mh
      | none => .stuck) else .stuck) := rfl
@[simp] theorem evP_popA (o : E) (es : Es) : evP C (.popA o es) = tv (fun env mh => ((evP C o).1 env mh).bind fun x mh => if isLstC x mh then (evEs C es env mh).bind fun ds mh => popC x ds mh else .stuck) := rfl
@[simp] theorem evP_call (f : Nat) (es : Es) : evP C (.call f es) = tv (fun env mh => (evVs C es env mh).bind fun rs mh => if rs.all RV.passes then C.call f rs mh else .stuck) := rfl
@[simp] theorem evP_pcall (f : Nat) (es : Es) : evP C (.pcall f es) = tv (fun env mh => (evVs C es env mh).bind fun rs mh => match views mh rs with
      | some ds => pureCall (rs.all RV.isDat) (C.call f (ds.map .dat) []) mh
      | none => .stuck) := rfl
@[simp] theorem evP_chain (op op' : CmpOp) (a b c : E) : evP C (.chain op op' a b c) = (fun env mh => ((evP C a).1 env mh).bind fun x mh => ((evP C b).1 env mh).bind fun y mh =>
      match view mh x, view mh y with
      | some d, some e => (match cmpD op d e with
        | some true => ((evP C c).1 env mh).bind fun z mh => (match view mh y, view mh z with
          | some e, some f => ofB (cmpD op' e f) mh
          | _, _ => .stuck)
        | some false => .ok (.dat (.bool false)) mh
        | none => .stuck)
      | _, _ => .stuck,
    fun env mh => ((evP C a).1 env mh).bind fun x mh => ((evP C b).1 env mh).bind fun y mh =>
      match view mh x, view mh y with
      | some d, some e => (match cmpD op d e with
        | some true => ((evP C c).1 env mh).bind fun z mh => (match view mh y, view mh z with
          | some e, some f => ofT (cmpD op' e f) mh
          | _, _ => .stuck)
        | some false => .ok false mh
        | none => .stuck)
      | _, _ => .stuck) := rfl
@[simp] theorem evEs_nil (env : MEnv) (mh : MH) : evEs C .nil env mh = .ok [] mh := rfl
@[simp] theorem evEs_cons (e : E) (es : Es) (env : MEnv) (mh : MH) : evEs C (.cons e es) env mh = ((evP C e).1 env mh).bind fun x mh => match x with
      | .dat d => (evEs C es env mh).bind fun ds mh => .ok (d :: ds) mh
      | _ => .stuck := rfl
@[simp] theorem evVs_nil (env : MEnv) (mh : MH) : evVs C .nil env mh = .ok [] mh := rfl
@[simp] theorem evVs_cons (e : E) (es : Es) (env : MEnv) (mh : MH) : evVs C (.cons e es) env mh = ((evP C e).1 env mh).bind fun x mh => (evVs C es env mh).bind fun xs mh => .ok (x :: xs) mh := rfl
@[simp] theorem tv_1 (v : MEnv → MH → Out RV) : (tv v).1 = v := rfl
@[simp] theorem tv_2 (v : MEnv → MH → Out RV) (env : MEnv) (mh : MH) : (tv v).2 env mh = (v env mh).bind fun x mh => match view mh x with
      | some d => ofT (truD d) mh
      | none => .stuck := rfl
@[simp] theorem evE_1 (e : E) (env : MEnv) (mh : MH) : evE C e env mh = (evP C e).1 env mh := rfl
@[simp] theorem evT_1 (e : E) (env : MEnv) (mh : MH) : evT C e env mh = (evP C e).2 env mh := rfl
@[simp] theorem view_dat (mh : MH) (d : PyData) : view mh (.dat d) = some d := rfl
@[simp] theorem view_olst (mh : MH) (d : List PyData) : view mh (.olst d) = some (.list d) := rfl
@[simp] theorem view_odct (mh : MH) (d : List (PyData × PyData)) : view mh (.odct d) = some (.dict d) := rfl
@[simp] theorem views_nil (mh : MH) : views mh [] = some [] := rfl
@[simp] theorem views_dat (mh : MH) (d : PyData) (rs : List RV) : views mh (.dat d :: rs) = (views mh rs).map (d :: ·) := by
  show (match view mh (.dat d), views mh rs with | some d, some ds => some (d :: ds) | _, _ => none) = _
  cases views mh rs <;> rfl
@[simp] theorem views_olst (mh : MH) (d : List PyData) (rs : List RV) : views mh (.olst d :: rs) = (views mh rs).map (.list d :: ·) := by
  show (match view mh (.olst d), views mh rs with | some d, some ds => some (d :: ds) | _, _ => none) = _
  cases views mh rs <;> rfl
@[simp] theorem ofD_some (d : PyData) (mh : MH) : ofD (some d) mh = .ok (.dat d) mh := rfl
@[simp] theorem ofB_some (d : Bool) (mh : MH) : ofB (some d) mh = .ok (.dat (.bool d)) mh := rfl
@[simp] theorem ofT_some (d : Bool) (mh : MH) : ofT (some d) mh = .ok d mh := rfl
@[simp] theorem truD_bool (b : Bool) : truD (.bool b) = some b := rfl
@[simp] theorem truD_int (i : Int) : truD (.int i) = some (i != 0) := rfl
@[simp] theorem truD_list (xs : List PyData) : truD (.list xs) = some !xs.isEmpty := rfl
@[simp] theorem truD_tuple (xs : List PyData) : truD (.tuple xs) = some !xs.isEmpty := rfl
@[simp] theorem evSs_nil (env : MEnv) (mh : MH) : evSs C .nil env mh = .next env mh := (rfl)
@[simp] theorem evSs_cons (s : S) (r : Ss) (env : MEnv) (mh : MH) : evSs C (.cons s r) env mh = (evS C s env mh).then (fun env mh => evSs C r env mh) := (rfl)
@[simp] theorem evS_if (c : E) (a b : Ss) (env : MEnv) (mh : MH) : evS C (.if_ c a b) env mh = SO.of env (fun t mh => match t with
      | true => evSs C a env mh
      | false => evSs C b env mh) (evT C c env mh) := (rfl)
@[simp] theorem evS_asg (t : Tg) (e : E) (env : MEnv) (mh : MH) : evS C (.asg t e) env mh = SO.of env (fun r mh => match r, t with
      | .dat d, t => (match bindT t d env with
        | some env' => .next env' mh
        | none => .stuck)
      | .ref n, .nm i => setN i (.ref n) env mh
      | _, _ => .stuck) (evE C e env mh) := (rfl)
def retK (r : RV) (mh : MH) : SO := match r with
      | .dat d => .ret (.dat d) mh
      | .ref n => .ret (.ref n) mh
      | _ => .stuck
@[simp] theorem retK_dat (d : PyData) (mh : MH) : retK (.dat d) mh = .ret (.dat d) mh := (rfl)
@[simp] theorem retK_ref (d : Nat) (mh : MH) : retK (.ref d) mh = .ret (.ref d) mh := (rfl)
@[simp] theorem evS_ret_var (i : Nat) (env : MEnv) (mh : MH) : evS C (.ret (.var i)) env mh = (match env[i]? with
      | some (some r) => (match frzR r with
        | some r => .ret r mh
        | none => .stuck)
      | _ => .stuck) := (rfl)
@[simp] theorem evS_ret_cst (d : PyData) (env : MEnv) (mh : MH) : evS C (.ret (.cst d)) env mh = SO.of env retK (evE C (.cst d) env mh) := (rfl)
@[simp] theorem evS_ret_glb (k : Nat) (d : PyData) (env : MEnv) (mh : MH) : evS C (.ret (.glb k d)) env mh = SO.of env retK (evE C (.glb k d) env mh) := (rfl)
@[simp] theorem evS_ret_and_ (a b : E) (env : MEnv) (mh : MH) : evS C (.ret (.and_ a b)) env mh = SO.of env retK (evE C (.and_ a b) env mh) := (rfl)
@[simp] theorem evS_ret_or_ (a b : E) (env : MEnv) (mh : MH) : evS C (.ret (.or_ a b)) env mh = SO.of env retK (evE C (.or_ a b) env mh) := (rfl)
@[simp] theorem evS_ret_not_ (a : E) (env : MEnv) (mh : MH) : evS C (.ret (.not_ a)) env mh = SO.of env retK (evE C (.not_ a) env mh) := (rfl)
@[simp] theorem evS_ret_cmp (o : CmpOp) (a b : E) (env : MEnv) (mh : MH) : evS C (.ret (.cmp o a b)) env mh = SO.of env retK (evE C (.cmp o a b) env mh) := (rfl)
@[simp] theorem evS_ret_chain (o p : CmpOp) (a b c : E) (env : MEnv) (mh : MH) : evS C (.ret (.chain o p a b c)) env mh = SO.of env retK (evE C (.chain o p a b c) env mh) := (rfl)
@[simp] theorem evS_ret_bin (o : Operator) (a b : E) (env : MEnv) (mh : MH) : evS C (.ret (.bin o a b)) env mh = SO.of env retK (evE C (.bin o a b) env mh) := (rfl)
@[simp] theorem evS_ret_cat (a b : E) (env : MEnv) (mh : MH) : evS C (.ret (.cat a b)) env mh = SO.of env retK (evE C (.cat a b) env mh) := (rfl)
@[simp] theorem evS_ret_neg (a : E) (env : MEnv) (mh : MH) : evS C (.ret (.neg a)) env mh = SO.of env retK (evE C (.neg a) env mh) := (rfl)
@[simp] theorem evS_ret_ite (a b c : E) (env : MEnv) (mh : MH) : evS C (.ret (.ite a b c)) env mh = SO.of env retK (evE C (.ite a b c) env mh) := (rfl)
@[simp] theorem evS_ret_tup (a : Es) (env : MEnv) (mh : MH) : evS C (.ret (.tup a)) env mh = SO.of env retK (evE C (.tup a) env mh) := (rfl)
@[simp] theorem evS_ret_lst (a : Es) (env : MEnv) (mh : MH) : evS C (.ret (.lst a)) env mh = SO.of env retK (evE C (.lst a) env mh) := (rfl)
@[simp] theorem evS_ret_dsp (a : Es) (env : MEnv) (mh : MH) : evS C (.ret (.dsp a)) env mh = SO.of env retK (evE C (.dsp a) env mh) := (rfl)
@[simp] theorem evS_ret_idx (a b : E) (env : MEnv) (mh : MH) : evS C (.ret (.idx a b)) env mh = SO.of env retK (evE C (.idx a b) env mh) := (rfl)
@[simp] theorem evS_ret_slc (a b : Bool) (c d e : E) (env : MEnv) (mh : MH) : evS C (.ret (.slc a b c d e)) env mh = SO.of env retK (evE C (.slc a b c d e) env mh) := (rfl)
@[simp] theorem evS_ret_isi (a : E) (b : Ty) (env : MEnv) (mh : MH) : evS C (.ret (.isi a b)) env mh = SO.of env retK (evE C (.isi a b) env mh) := (rfl)
@[simp] theorem evS_ret_isx (a b : Nat) (env : MEnv) (mh : MH) : evS C (.ret (.isx a b)) env mh = SO.of env retK (evE C (.isx a b) env mh) := (rfl)
@[simp] theorem evS_ret_xat (a b : Nat) (env : MEnv) (mh : MH) : evS C (.ret (.xat a b)) env mh = SO.of env retK (evE C (.xat a b) env mh) := (rfl)
@[simp] theorem evS_ret_blt (a : Blt) (b : Es) (env : MEnv) (mh : MH) : evS C (.ret (.blt a b)) env mh = SO.of env retK (evE C (.blt a b) env mh) := (rfl)
@[simp] theorem evS_ret_mth (a : Mth) (b : E) (c : Es) (env : MEnv) (mh : MH) : evS C (.ret (.mth a b c)) env mh = SO.of env retK (evE C (.mth a b c) env mh) := (rfl)
@[simp] theorem evS_ret_popA (a : E) (b : Es) (env : MEnv) (mh : MH) : evS C (.ret (.popA a b)) env mh = SO.of env retK (evE C (.popA a b) env mh) := (rfl)
@[simp] theorem evS_ret_call (a : Nat) (b : Es) (env : MEnv) (mh : MH) : evS C (.ret (.call a b)) env mh = SO.of env retK (evE C (.call a b) env mh) := (rfl)
@[simp] theorem evS_ret_pcall (a : Nat) (b : Es) (env : MEnv) (mh : MH) : evS C (.ret (.pcall a b)) env mh = SO.of env retK (evE C (.pcall a b) env mh) := (rfl)
@[simp] theorem evS_ret_comp (a : E) (b : Tg) (c : It) (d : E) (e : List Nat) (env : MEnv) (mh : MH) : evS C (.ret (.comp a b c d e)) env mh = SO.of env retK (evE C (.comp a b c d e) env mh) := (rfl)
@[simp] theorem evS_retN (env : MEnv) (mh : MH) : evS C .retN env mh = .ret (.dat .none) mh := (rfl)
@[simp] theorem evS_expr (e : E) (env : MEnv) (mh : MH) : evS C (.expr e) env mh = SO.of env (fun _ mh => .next env mh) (evE C e env mh) := (rfl)
@[simp] theorem evS_asgO (i : Nat) (e : E) (env : MEnv) (mh : MH) : evS C (.asgO i e) env mh = SO.of env (fun r mh => match freshV e r with
      | some r => setN i r env mh
      | none => .stuck) (evE C e env mh) := (rfl)
@[simp] theorem evS_asgH (i : Nat) (e : E) (env : MEnv) (mh : MH) : evS C (.asgH i e) env mh = SO.of env (fun r mh => match freshV e r with
      | some r => setN i (.ref mh.length) env (mh ++ [toCell r])
      | none => .stuck) (evE C e env mh) := (rfl)
@[simp] theorem evS_app (i : Nat) (e : E) (env : MEnv) (mh : MH) : evS C (.app i e) env mh = if lstAt env mh i then SO.of env (fun r mh => match r with
      | .dat d => upR i (appD d) env mh
      | _ => .stuck) (evE C e env mh) else .stuck := (rfl)
@[simp] theorem evS_setI (i : Nat) (k v : E) (env : MEnv) (mh : MH) : evS C (.setI i k v) env mh = if hasAt env i then SO.of env (fun r mh => SO.of env (fun q mh => match r, q with
      | .dat d, .dat x => upR i (fun c => putC c x d) env mh
      | _, _ => .stuck) (evE C k env mh)) (evE C v env mh) else .stuck := (rfl)
@[simp] theorem evS_for (t : Tg) (it : It) (body : Ss) (env : MEnv) (mh : MH) : evS C (.for_ t it body) env mh = SO.of env (fun xs mh => forB C t body xs env mh) (evItF C it env mh) := (rfl)
theorem then_congr {k : MEnv → MH → SO} {o o' : SO} (h : o = o') : SO.then k o = SO.then k o' := by rw [h]
theorem SOof_congr {α : Type} {env : MEnv} {k : α → MH → SO} {o o' : Out α} (h : o = o') : SO.of env k o = SO.of env k o' := by rw [h]
theorem bind_congr {α β : Type} {k : α → MH → Out β} {o o' : Out α} (h : o = o') : Out.bind o k = Out.bind o' k := by rw [h]

@[simp] theorem evS_brk (env : MEnv) (mh : MH) : evS C .brk env mh = .brk env mh := (rfl)
@[simp] theorem evS_cont (env : MEnv) (mh : MH) : evS C .cont env mh = .cont env mh := (rfl)
@[simp] theorem evS_pass (env : MEnv) (mh : MH) : evS C .pass env mh = .next env mh := (rfl)
@[simp] theorem evS_raise (c : Nat) (es : Es) (env : MEnv) (mh : MH) : evS C (.raise c es) env mh = SO.of env (fun ds mh => match ds with
      | [] => .exc ⟨c, none⟩ env mh
      | [d] => .exc ⟨c, some d⟩ env mh
      | _ => .stuck) (evEs C es env mh) := (rfl)
@[simp] theorem SOof_ok {α : Type} (env : MEnv) (k : α → MH → SO) (a : α) (mh : MH) : SO.of env k (.ok a mh) = k a mh := rfl
@[simp] theorem SOof_exc {α : Type} (env : MEnv) (k : α → MH → SO) (x : Exn) (mh : MH) : SO.of env k (.exc x mh) = .exc x env mh := rfl
@[simp] theorem then_next (k : MEnv → MH → SO) (env : MEnv) (mh : MH) : SO.then k (.next env mh) = k env mh := rfl
@[simp] theorem then_ret (k : MEnv → MH → SO) (r : RV) (mh : MH) : SO.then k (.ret r mh) = .ret r mh := rfl
@[simp] theorem then_exc (k : MEnv → MH → SO) (x : Exn) (env : MEnv) (mh : MH) : SO.then k (.exc x env mh) = .exc x env mh := rfl
@[simp] theorem bodyEnd_next (env : MEnv) (mh : MH) : bodyEnd (.next env mh) = .ok (.dat .none) mh := rfl
@[simp] theorem bodyEnd_ret (r : RV) (mh : MH) : bodyEnd (.ret r mh) = .ok r mh := rfl
@[simp] theorem bodyEnd_exc (x : Exn) (env : MEnv) (mh : MH) : bodyEnd (.exc x env mh) = .exc x mh := rfl
@[simp] theorem pure_dat (d : PyData) (mh0 mh : MH) : pureCall true (.ok (.dat d) mh0) mh = .ok (.dat d) mh := rfl
@[simp] theorem pure_olst (d : List PyData) (mh0 mh : MH) : pureCall true (.ok (.olst d) mh0) mh = .ok (.olst d) mh := rfl
@[simp] theorem pure_exc (x : Exn) (mh0 mh : MH) : pureCall true (.exc x mh0) mh = .exc x mh := rfl
end

/-! ### compares -/
theorem depOk_int (i : Int) : depOk (.int i) = true := by simp [depOk, PyData.plain, PyData.depth]
theorem depOk_str (i : Str) : depOk (.str i) = true := by simp [depOk, PyData.plain, PyData.depth]
theorem ltD_int (i j : Int) : ltD (.int i) (.int j) = some (decide (i < j)) := by
  unfold ltD
  rw [depOk_int, depOk_int]
  simp [PySem.W.alike, nn, PySem.W.dataLt_int]
theorem ltD_str (i j : Str) : ltD (.str i) (.str j) = some (decide (i.cps.toList < j.cps.toList)) := by
  unfold ltD
  rw [depOk_str, depOk_str]
  simp [PySem.W.alike, nn, PySem.W.dataLt_str]
theorem cmp_lt_int (i j : Int) : cmpD .Lt (.int i) (.int j) = some (decide (i < j)) := ltD_int i j
theorem cmp_gt_int (i j : Int) : cmpD .Gt (.int i) (.int j) = some (decide (j < i)) := ltD_int j i
theorem cmp_le_int (i j : Int) : cmpD .LtE (.int i) (.int j) = some (decide (i ≤ j)) := by
  show (ltD (.int j) (.int i)).map not = _
  rw [ltD_int]
  show some (!decide (j < i)) = _
  rw [← decide_not]; simp only [Int.not_lt]
theorem cmp_ge_int (i j : Int) : cmpD .GtE (.int i) (.int j) = some (decide (j ≤ i)) := by
  show (ltD (.int i) (.int j)).map not = _
  rw [ltD_int]
  show some (!decide (i < j)) = _
  rw [← decide_not]; simp only [Int.not_lt]
theorem cmp_lt_str (i j : Str) : cmpD .Lt (.str i) (.str j) = some (decide (i.cps.toList < j.cps.toList)) := ltD_str i j
theorem eqD_int (i j : Int) : eqD (.int i) (.int j) = some (decide (i = j)) := by
  unfold eqD
  rw [depOk_int, depOk_int]
  show some (PyData.eqv (.int i) (.int j)) = _
  rw [PyData.eqv]; rfl
theorem cmp_eq_int (i j : Int) : cmpD .Eq (.int i) (.int j) = some (decide (i = j)) := eqD_int i j
theorem cmp_ne_int (i j : Int) : cmpD .NotEq (.int i) (.int j) = some (!decide (i = j)) := by
  show (eqD (.int i) (.int j)).map not = _
  rw [eqD_int]; rfl

/-! ### comprehensions -/
theorem compL_pure {turn : PyData → MH → Out (Option PyData)} {f : PyData → Option PyData} {mh : MH} : ∀ (xs : List PyData) (acc : List PyData), (∀ x ∈ xs, turn x mh = .ok (f x) mh) → compL turn xs mh acc = .ok (acc ++ xs.filterMap f) mh
  | [], acc, _ => by simp [compL]
  | x :: xs, acc, h => by
    unfold compL
    rw [h x List.mem_cons_self]
    show (match f x with
      | some d => compL turn xs mh (acc ++ [d])
      | none => compL turn xs mh acc) = _
    have ih := fun acc => compL_pure (f := f) xs acc fun y hy => h y (List.mem_cons_of_mem _ hy)
    cases e : f x with
    | none => simp [ih, List.filterMap_cons, e]
    | some d => simp [ih, List.filterMap_cons, e]
theorem ev_comp {C : CallF} {elt c : E} {tg : Tg} {it : It} {own : List Nat} {env : MEnv} {mh mh1 : MH} {xs : List PyData} {f : PyData → Option PyData} (hi : evIt C it env mh = .ok xs mh1) (hb : big xs.length = true) (h : ∀ x ∈ xs, cmpTurn C elt tg c own env x mh1 = .ok (f x) mh1) :
    (evP C (.comp elt tg it c own)).1 env mh = .ok (.dat (.list (xs.filterMap f))) mh1 := by
  show ((evIt C it env mh).bind fun xs mh => if big xs.length then noExc ((compL (cmpTurn C elt tg c own env) xs mh []).bind fun ds mh => .ok (RV.dat (.list ds)) mh) else .stuck) = _
  rw [hi]
  show (if big xs.length then noExc ((compL (cmpTurn C elt tg c own env) xs mh1 []).bind fun ds mh => .ok (RV.dat (.list ds)) mh) else .stuck) = _
  rw [if_pos hb, compL_pure xs [] h]
  rfl
theorem ev_map {C : CallF} {elt c : E} {tg : Tg} {it : It} {own : List Nat} {env : MEnv} {mh mh1 : MH} {xs : List PyData} {f : PyData → PyData} (hi : evIt C it env mh = .ok xs mh1) (hb : big xs.length = true) (h : ∀ x ∈ xs, cmpTurn C elt tg c own env x mh1 = .ok (some (f x)) mh1) :
    (evP C (.comp elt tg it c own)).1 env mh = .ok (.dat (.list (xs.map f))) mh1 := by
  rw [ev_comp (f := fun x => some (f x)) hi hb h, List.filterMap_eq_map']
/-- all of a list of truths -/
theorem bools_map {α : Type} (p : α → Bool) : ∀ xs : List α, bools (xs.map fun x => .bool (p x)) = some (xs.map p)
  | [] => rfl
  | x :: xs => by
    show (bools (xs.map fun x => PyData.bool (p x))).map (fun l => p x :: l) = _
    rw [bools_map p xs]; rfl
theorem all_map {α : Type} (p : α → Bool) (xs : List α) : allD (.list (xs.map fun x => .bool (p x))) = some (.bool (xs.all p)) := by
  show (bools (xs.map fun x => PyData.bool (p x))).map (fun l => PyData.bool (l.all id)) = _
  rw [bools_map]; simp [List.all_map]
theorem any_map {α : Type} (p : α → Bool) (xs : List α) : anyD (.list (xs.map fun x => .bool (p x))) = some (.bool (xs.any p)) := by
  show (bools (xs.map fun x => PyData.bool (p x))).map (fun l => PyData.bool (l.any id)) = _
  rw [bools_map]; simp [List.any_map]
/-! ### loops that go on or answer -/
theorem forL_until {t : Tg} {body : MEnv → MH → SO} {I : MEnv → Prop} {P : PyData → Bool} {r : RV} {mh : MH} : ∀ (xs : List PyData) (env : MEnv), I env →
    (∀ x ∈ xs, ∀ env, I env → ∃ env', bindT t x env = some env' ∧ (P x = true → ∃ env2, (body env' mh = .next env2 mh ∨ body env' mh = .cont env2 mh) ∧ I env2) ∧ (P x = false → body env' mh = .ret r mh)) →
    (xs.all P = true → ∃ env', forL t body xs env mh = .next env' mh ∧ I env') ∧ (xs.all P = false → forL t body xs env mh = .ret r mh)
  | [], env, hI, _ => ⟨fun _ => ⟨env, rfl, hI⟩, fun h => by cases h⟩
  | x :: xs, env, hI, h => by
    obtain ⟨env', hb, h1, h2⟩ := h x List.mem_cons_self env hI
    have step : forL t body (x :: xs) env mh = (body env' mh).turn (forL t body xs) := by
      show (match bindT t x env with
        | some env' => (body env' mh).turn (forL t body xs)
        | none => .stuck) = _
      rw [hb]
    rw [step, List.all_cons]
    cases hp : P x with
    | false => rw [h2 hp]; exact ⟨fun z => by simp at z, fun _ => rfl⟩
    | true =>
      obtain ⟨env2, e, hI2⟩ := h1 hp
      have ih := forL_until xs env2 hI2 fun y hy => h y (List.mem_cons_of_mem _ hy)
      have e2 : (body env' mh).turn (forL t body xs) = forL t body xs env2 mh := by rcases e with e | e <;> rw [e] <;> rfl
      rw [e2, Bool.true_and]
      exact ih
theorem forB_until {C : CallF} {t : Tg} {body : Ss} {I : MEnv → Prop} {P : PyData → Bool} {r : RV} {mh : MH} (xs : List PyData) (env : MEnv) (hI : I env)
    (h : ∀ x ∈ xs, ∀ env, I env → ∃ env', bindT t x env = some env' ∧ (P x = true → ∃ env2, (evSs C body env' mh = .next env2 mh ∨ evSs C body env' mh = .cont env2 mh) ∧ I env2) ∧ (P x = false → evSs C body env' mh = .ret r mh)) :
    (xs.all P = true → ∃ env', forB C t body xs env mh = .next env' mh ∧ I env') ∧ (xs.all P = false → forB C t body xs env mh = .ret r mh) :=
  forL_until (body := fun env mh => evSs C body env mh) xs env hI h
end Mn
end
section
set_option linter.all false
set_option autoImplicit false
set_option maxRecDepth 100000
namespace Mn
open PySem
/-- the calls, k deep -/
def CF (P : Nat → Option FDef) (sub : Nat → Nat → Option Bool) (k : Nat) : CallF := ⟨callN P sub k, sub⟩
theorem cf_succ {P : Nat → Option FDef} {sub : Nat → Nat → Option Bool} {f : Nat} {d : FDef} (h : P f = some d) (k : Nat) (rs : List RV) (mh : MH) : (CF P sub (k + 1)).call f rs mh = runF (CF P sub k) d rs mh := by
  show (match P f with
    | some d => runF ⟨callN P sub k, sub⟩ d rs mh
    | none => .stuck) = _
  rw [h]; rfl
/-- texts and rows that the model's bounds let -/
def okD : PyData → Bool
  | .str s => big s.length
  | .tuple xs => big xs.length && okA xs
  | .list xs => big xs.length && okA xs
  | _ => true
where okA : List PyData → Bool
  | [] => true
  | x :: xs => okD x && okA xs
theorem okA_mem : ∀ {xs : List PyData} {x : PyData}, okD.okA xs = true → x ∈ xs → okD x = true
  | y :: ys, x, h, hx => by
    have h' : (okD y && okD.okA ys) = true := h
    rw [Bool.and_eq_true] at h'
    rcases List.mem_cons.mp hx with e | e
    · rw [e]; exact h'.1
    · exact okA_mem h'.2 e
def isPair : PyData → Bool
  | .tuple [_, _] => true
  | _ => false
theorem isPair_tup (xs : List PyData) : isPair (.tuple xs) = decide ((xs.length : Int) = 2) := by
  match xs with
  | [] => rfl
  | [_] => rfl
  | [_, _] => rfl
  | _ :: _ :: _ :: _ => simp [isPair]; omega
theorem r_is_pair (C : CallF) (d : PyData) (mh : MH) : runF C Fn.is_pair [.dat d] mh = .ok (.dat (.bool (isPair d))) mh := by
  cases d with
  | tuple xs =>
    rw [isPair_tup]
    have h : cmpD .Eq (.int (xs.length : Int)) (.int 2) = some (decide ((xs.length : Int) = 2)) := cmp_eq_int _ _
    simp [runF, Fn.is_pair, notVar, bltD, un, lenD, tyD, RV.passes, h]
  | _ => rfl
def signs : Str := "abcdefghijklmnopqrstuvwxyz0123456789"
def letters : Str := "abcdefghijklmnopqrstuvwxyz"
def allSigns (s : Str) : Bool := s.cps.toList.all fun c => decide (c ∈ signs.cps.toList)
def isWorthS (s : Str) : Bool := decide (1 ≤ s.length) && (decide (s.length ≤ 8) && allSigns s)
def isWorth : PyData → Bool
  | .str s => isWorthS s
  | _ => false
def signRow (s : Str) : PyData := .list (s.cps.toList.map fun c => PyData.bool (decide (c ∈ signs.cps.toList)))
theorem allD_signRow (s : Str) : allD (signRow s) = some (.bool (allSigns s)) := all_map _ _
theorem itC_signs (C : CallF) (s : Str) (o : Option RV) (mh : MH) (hb : big s.length = true) : (evP C (.comp (.cmp .In (.var 1) (.glb 11 (.str "abcdefghijklmnopqrstuvwxyz0123456789"))) (.nm 1) (.of (.var 0)) (.cst (.bool true)) [1])).1 [some (.dat (.str s)), o] mh =
    .ok (.dat (signRow s)) mh := by
  have h := ev_map (C := C) (elt := .cmp .In (.var 1) (.glb 11 (.str "abcdefghijklmnopqrstuvwxyz0123456789"))) (c := .cst (.bool true)) (tg := .nm 1) (own := [1]) (it := .of (.var 0)) (env := [some (.dat (.str s)), o]) (mh := mh) (mh1 := mh) (xs := s.cps.toList.map fun c => PyData.str ⟨#[c]⟩) (f := fun d => .bool (match d with | .str ⟨⟨[c]⟩⟩ => decide (c ∈ signs.cps.toList) | _ => false)) rfl (by
    rw [List.length_map]
    show big s.cps.toList.length = true
    exact hb) fun x hx => by
    obtain ⟨c, _, rfl⟩ := List.mem_map.mp hx
    rfl
  rw [h, List.map_map]
  rfl
theorem r_is_worth (C : CallF) (d : PyData) (mh : MH) (hd : okD d = true) : runF C Fn.is_worth [.dat d] mh = .ok (.dat (.bool (isWorth d))) mh := by
  cases d with
  | str s =>
    have hb : big s.length = true := hd
    have h1 : cmpD .LtE (.int 1) (.int (s.length : Int)) = some (decide ((1 : Int) ≤ s.length)) := cmp_le_int _ _
    have h2 : cmpD .LtE (.int (s.length : Int)) (.int 8) = some (decide ((s.length : Int) ≤ 8)) := cmp_le_int _ _
    have h3 := itC_signs C s none mh hb
    have e1 : decide ((1 : Int) ≤ s.length) = decide (1 ≤ s.length) := by simp; omega
    have e2 : decide ((s.length : Int) ≤ 8) = decide (s.length ≤ 8) := by simp; omega
    simp [runF, Fn.is_worth, bltD, un, lenD, tyD, RV.passes, h1, h2, hb, h3, isWorth, isWorthS, allD_signRow, -decide_eq_true_eq]
    rw [e1, e2]
    rcases Bool.eq_false_or_eq_true (decide (1 ≤ s.length)) with e3 | e3 <;> rcases Bool.eq_false_or_eq_true (decide (s.length ≤ 8)) with e4 | e4 <;> simp [e3, e4]
    · rw [h3]; simp [allD_signRow]
  | _ => rfl
variable {P : Nat → Option FDef} {sub : Nat → Nat → Option Bool}
theorem c_is_pair (h : P 274 = some Fn.is_pair) (k : Nat) (d : PyData) (mh : MH) : (CF P sub (k + 1)).call 274 [.dat d] mh = .ok (.dat (.bool (isPair d))) mh := by
  rw [cf_succ h, r_is_pair]
theorem c_is_worth (h : P 295 = some Fn.is_worth) (k : Nat) (d : PyData) (mh : MH) (hd : okD d = true) : (CF P sub (k + 1)).call 295 [.dat d] mh = .ok (.dat (.bool (isWorth d))) mh := by
  rw [cf_succ h, r_is_worth _ _ _ hd]
def isName : PyData → Bool
  | .str s => isWorthS s && (match s.cps.toList with | c :: _ => decide (c ∈ letters.cps.toList) | [] => false)
  | _ => false
theorem len_cps (s : Str) : s.length = s.cps.toList.length := rfl
theorem c_is_name (h : P 265 = some Fn.is_name) (h1 : P 295 = some Fn.is_worth) (k : Nat) (d : PyData) (mh : MH) (hd : okD d = true) : (CF P sub (k + 2)).call 265 [.dat d] mh = .ok (.dat (.bool (isName d))) mh := by
  rw [cf_succ h]
  have hw := fun mh => c_is_worth (sub := sub) h1 k d mh hd
  cases d with
  | str s =>
    have hb : big s.length = true := hd
    cases e : isWorthS s with
    | false => simp [runF, Fn.is_name, RV.passes, RV.isDat, hw, isWorth, isName, e]
    | true =>
      have : ∃ c l, s.cps.toList = c :: l := by
        cases e2 : s.cps.toList with
        | nil =>
          have : s.length = 0 := by rw [len_cps, e2]; rfl
          simp [isWorthS, this] at e
        | cons c l => exact ⟨c, l, rfl⟩
      obtain ⟨c, l, e2⟩ := this
      have hi : idxD (.str s) (.int 0) = some (.str ⟨#[c]⟩) := by
        show (if big s.length then (L2.atI s.cps.toList 0).map fun c => PyData.str ⟨#[c]⟩ else none) = _
        rw [hb, e2]
        simp [L2.atI, L2.ixN]
      have hc : cmpD .In (.str ⟨#[c]⟩) (.str "abcdefghijklmnopqrstuvwxyz") = some (decide (c ∈ letters.cps.toList)) := rfl
      simp [runF, Fn.is_name, RV.passes, RV.isDat, hw, isWorth, isName, e, hi, hc, e2]
  | _ => simp [runF, Fn.is_name, RV.passes, RV.isDat, hw, isWorth, isName]
/-- texts in rising order -/
def rise : List Str → Bool
  | a :: b :: r => decide (a.cps.toList < b.cps.toList) && rise (b :: r)
  | _ => true
theorem rngD_map (lo : Int) : ∀ n, rngD lo n = (List.range n).map fun i : Nat => PyData.int (lo + i) := by
  intro n
  induction n generalizing lo with
  | zero => rfl
  | succ n ih =>
    rw [rngD, ih, List.range_succ_eq_map, List.map_cons, List.map_map]
    congr 1
    · simp
    · apply List.map_congr_left; intro i _; simp; omega
theorem rise_range : ∀ ss : List Str, rise ss = (List.range (ss.length - 1)).all fun i => decide ((ss.getD i Str.empty).cps.toList < (ss.getD (i + 1) Str.empty).cps.toList)
  | [] => rfl
  | [_] => rfl
  | a :: b :: r => by
    rw [rise, rise_range (b :: r)]
    show _ = (List.range (r.length + 1)).all _
    rw [List.range_succ_eq_map, List.all_cons, List.all_map]
    rfl

theorem atD_nat (xs : List PyData) (i : Nat) : atD xs (i : Int) = xs[i]? := by
  unfold atD L2.atI L2.ixN
  by_cases h : i < xs.length
  · have h1 : (0 : Int) ≤ i := by omega
    have h2 : (i : Int) < xs.length := by omega
    simp [h1, h2, h]
  · have h1 : (0 : Int) ≤ i := by omega
    have h2 : ¬ (i : Int) < xs.length := by omega
    have h3 : xs[i]? = none := List.getElem?_eq_none (by omega)
    simp [h1, h2, h3]
def riseRow (ss : List Str) : PyData := .list ((List.range (ss.length - 1)).map fun i => PyData.bool (decide ((ss.getD i Str.empty).cps.toList < (ss.getD (i + 1) Str.empty).cps.toList)))
theorem allD_riseRow (ss : List Str) : allD (riseRow ss) = some (.bool (rise ss)) := by
  rw [rise_range]; exact all_map _ _
theorem itC_rise (C : CallF) (ss : List Str) (D : PyData) (hD : D = .list (ss.map .str) ∨ D = .tuple (ss.map .str)) (mh : MH) (hb : big ss.length = true) :
    (evP C (.comp (.cmp .Lt (.idx (.var 0) (.bin .Sub (.var 1) (.cst (.int 1)))) (.idx (.var 0) (.var 1))) (.nm 1) (.rng2 (.cst (.int 1)) (.blt .len (.cons (.var 0) .nil))) (.cst (.bool true)) [1])).1 [some (.dat D), none] mh = .ok (.dat (riseRow ss)) mh := by
  have hlen : lenD D = some (.int ss.length) := by rcases hD with e | e <;> rw [e] <;> simp [lenD]
  have hat : ∀ i : Nat, idxD D (.int i) = (ss.map PyData.str)[i]? := fun i => by rcases hD with e | e <;> rw [e] <;> exact atD_nat _ i
  have hle : (ss.length : Int) ≤ 16777216 := by have := of_decide_eq_true hb; omega
  have h := ev_map (C := C) (elt := .cmp .Lt (.idx (.var 0) (.bin .Sub (.var 1) (.cst (.int 1)))) (.idx (.var 0) (.var 1))) (c := .cst (.bool true)) (tg := .nm 1) (own := [1]) (it := .rng2 (.cst (.int 1)) (.blt .len (.cons (.var 0) .nil))) (env := [some (.dat D), none]) (mh := mh) (mh1 := mh) (xs := (List.range (ss.length - 1)).map fun i : Nat => PyData.int (1 + i)) (f := fun d => match d with | .int j => .bool (decide ((ss.getD (j.toNat - 1) Str.empty).cps.toList < (ss.getD j.toNat Str.empty).cps.toList)) | _ => .none) (by
      have hr : rngD 1 (ss.length - 1) = (List.range (ss.length - 1)).map fun i : Nat => PyData.int (1 + i) := by
        rw [rngD_map]
      have hc : (-16777216 : Int) ≤ 1 ∧ (1 : Int) ≤ 16777216 ∧ (-16777216 : Int) ≤ ss.length ∧ (ss.length : Int) ≤ 16777216 := by omega
      simp [evIt, bltD, un, hlen, hr, hc])
    (by
      rw [List.length_map, List.length_range]
      exact decide_eq_true (by have := of_decide_eq_true hb; omega)) fun x hx => by
    obtain ⟨i, hi, rfl⟩ := List.mem_map.mp hx
    have hi : i < ss.length - 1 := List.mem_range.mp hi
    have g1 : idxD D (.int (1 + (i : Int) - 1)) = some (.str (ss.getD i Str.empty)) := by
      have : (1 + (i : Int) - 1) = (i : Int) := by omega
      rw [this, hat, List.getElem?_map, List.getD_eq_getElem?_getD, List.getElem?_eq_getElem (by omega)]; rfl
    have g2 : idxD D (.int (1 + (i : Int))) = some (.str (ss.getD (i + 1) Str.empty)) := by
      have : (1 + (i : Int)) = ((i + 1 : Nat) : Int) := by omega
      rw [this, hat, List.getElem?_map, List.getD_eq_getElem?_getD, List.getElem?_eq_getElem (by omega)]; rfl
    have e1 : (1 + (i : Int)).toNat = i + 1 := by omega
    have hb1 : binD .Sub (.int (1 + (i : Int))) (.int 1) = some (.int (1 + (i : Int) - 1)) := rfl
    simp [cmpTurn, bindT, wipeM, hb1, g1, g2, cmp_lt_str, e1]
  rw [h, List.map_map]
  congr 2
  unfold riseRow
  congr 1
  apply List.map_congr_left
  intro i _
  have e1 : (1 + (i : Int)).toNat = i + 1 := by omega
  simp [e1]
theorem r_is_rising (C : CallF) (ss : List Str) (D : PyData) (hD : D = .list (ss.map .str) ∨ D = .tuple (ss.map .str)) (mh : MH) (hb : big ss.length = true) :
    runF C Fn.is_rising [.dat D] mh = .ok (.dat (.bool (rise ss))) mh := by
  have h := itC_rise C ss D hD mh hb
  simp [runF, Fn.is_rising, RV.passes, h, bltD, un, allD_riseRow]
theorem c_is_rising (h : P 280 = some Fn.is_rising) (k : Nat) (ss : List Str) (D : PyData) (hD : D = .list (ss.map .str) ∨ D = .tuple (ss.map .str)) (mh : MH) (hb : big ss.length = true) : (CF P sub (k + 1)).call 280 [.dat D] mh = .ok (.dat (.bool (rise ss))) mh := by
  rw [cf_succ h, r_is_rising _ _ _ hD _ hb]

theorem plainA_strs : ∀ ss : List Str, PyData.plainAll (ss.map .str) = true
  | [] => by simp [PyData.plainAll]
  | s :: ss => by simp [PyData.plainAll, PyData.plain, plainA_strs ss]
theorem depthA_strs : ∀ ss : List Str, PyData.depthAll (ss.map .str) ≤ 1
  | [] => by simp [PyData.depthAll]
  | s :: ss => by
    have := depthA_strs ss
    simp [PyData.depthAll, PyData.depth]
    omega
def tS (ss : List Str) : PyData := .tuple (ss.map .str)
theorem depOk_tS (ss : List Str) : depOk (tS ss) = true := by
  have := depthA_strs ss
  simp [depOk, tS, PyData.plain, PyData.depth, plainA_strs]
  omega
theorem eqv_str (a b : Str) : PyData.eqv (.str a) (.str b) = decide (a = b) := by rw [PyData.eqv]; rfl
def isWord (d : PyData) (ws : List Str) : Bool := match d with
  | .str s => decide (s ∈ ws)
  | _ => false
theorem any_strs (s : Str) : ∀ ws : List Str, (ws.map PyData.str).any (fun z => PyData.eqv z (.str s)) = decide (s ∈ ws)
  | [] => rfl
  | w :: ws => by
    rw [List.map_cons, List.any_cons, any_strs s ws, eqv_str]
    by_cases h : w = s
    · simp [h]
    · have : ¬ s = w := fun e => h e.symm
      simp [h, this]
theorem in_tS (s : Str) (ws : List Str) : cmpD .In (.str s) (tS ws) = some (decide (s ∈ ws)) := by
  show (if depOk (.str s) && depOk (tS ws) then some ((ws.map PyData.str).any fun z => PyData.eqv z (.str s)) else none) = _
  rw [depOk_str, depOk_tS, any_strs]
  rfl
theorem r_is_word (C : CallF) (d : PyData) (ws : List Str) (mh : MH) : runF C Fn.is_word [.dat d, .dat (tS ws)] mh = .ok (.dat (.bool (isWord d ws))) mh := by
  cases d with
  | str s => simp [runF, Fn.is_word, RV.passes, tyD, in_tS, isWord]
  | _ => rfl
theorem c_is_word (h : P 294 = some Fn.is_word) (k : Nat) (d : PyData) (ws : List Str) (mh : MH) : (CF P sub (k + 1)).call 294 [.dat d, .dat (tS ws)] mh = .ok (.dat (.bool (isWord d ws))) mh := by
  rw [cf_succ h, r_is_word]
/-- the texts of a row -/
def strsOf : List PyData → List Str := List.filterMap fun d => match d with
  | .str s => some s
  | _ => none
def isWorths (d : PyData) (lo hi : Int) : Bool := match d with
  | .tuple xs => decide (lo ≤ (xs.length : Int)) && (decide ((xs.length : Int) ≤ hi) && (xs.all isWorth && rise (strsOf xs)))
  | _ => false
theorem worths_strs : ∀ xs : List PyData, xs.all isWorth = true → xs = (strsOf xs).map .str
  | [], _ => rfl
  | .str s :: xs, h => by
    have := worths_strs xs (by simp at h ⊢; exact h.2)
    show PyData.str s :: xs = PyData.str s :: (strsOf xs).map .str
    rw [← this]
  | .none :: _, h => by simp [isWorth] at h
  | .bool _ :: _, h => by simp [isWorth] at h
  | .int _ :: _, h => by simp [isWorth] at h
  | .list _ :: _, h => by simp [isWorth] at h
  | .tuple _ :: _, h => by simp [isWorth] at h
  | .dict _ :: _, h => by simp [isWorth] at h
def worthRow (xs : List PyData) : PyData := .list (xs.map fun x => .bool (isWorth x))
theorem allD_worthRow (xs : List PyData) : allD (worthRow xs) = some (.bool (xs.all isWorth)) := all_map _ _
theorem c_is_worths (h : P 296 = some Fn.is_worths) (h1 : P 295 = some Fn.is_worth) (h2 : P 280 = some Fn.is_rising) (k : Nat) (d : PyData) (lo hi : Int) (mh : MH) (hd : okD d = true) :
    (CF P sub (k + 2)).call 296 [.dat d, .dat (.int lo), .dat (.int hi)] mh = .ok (.dat (.bool (isWorths d lo hi))) mh := by
  rw [cf_succ h]
  cases d with
  | tuple xs =>
    have hd' : (big xs.length && okD.okA xs) = true := hd
    rw [Bool.and_eq_true] at hd'
    have hw := fun d hd mh => c_is_worth (sub := sub) h1 k d mh hd
    have hcm : (evP (CF P sub (k + 1)) (.comp (.pcall 295 (.cons (.var 3) .nil)) (.nm 3) (.of (.var 0)) (.cst (.bool true)) [3])).1 [some (.dat (.tuple xs)), some (.dat (.int lo)), some (.dat (.int hi)), none] mh = .ok (.dat (worthRow xs)) mh := by
      refine ev_map (mh1 := mh) (xs := xs) (f := fun x => .bool (isWorth x)) (by simp [evIt, itemsD]) hd'.1 fun x hx => ?_
      simp [cmpTurn, bindT, wipeM, hw x (okA_mem hd'.2 hx), RV.isDat]
    have l1 : cmpD .LtE (.int lo) (.int (xs.length : Int)) = some (decide (lo ≤ (xs.length : Int))) := cmp_le_int _ _
    have l2 : cmpD .LtE (.int (xs.length : Int)) (.int hi) = some (decide ((xs.length : Int) ≤ hi)) := cmp_le_int _ _
    have hr := fun (e : xs.all isWorth = true) (mh : MH) => c_is_rising (sub := sub) h2 k (strsOf xs) (.tuple xs) (.inr (by rw [← worths_strs xs e])) mh (by
      have : (strsOf xs).length = xs.length := by have := congrArg List.length (worths_strs xs e); simpa using this.symm
      rw [this]; exact hd'.1)
    rcases Bool.eq_false_or_eq_true (decide (lo ≤ (xs.length : Int))) with e1 | e1 <;> rcases Bool.eq_false_or_eq_true (decide ((xs.length : Int) ≤ hi)) with e2 | e2 <;> rcases Bool.eq_false_or_eq_true (xs.all isWorth) with e3 | e3 <;>
      simp [runF, Fn.is_worths, RV.passes, RV.isDat, tyD, bltD, un, lenD, l1, l2, e1, e2, isWorths, hcm, allD_worthRow, e3, -decide_eq_true_eq, -List.all_eq_true, -decide_eq_false_iff_not, -List.all_eq_false, hr]
  | _ => simp [runF, Fn.is_worths, RV.passes, RV.isDat, tyD, isWorths]
end Mn
end
section
set_option linter.all false
set_option autoImplicit false
set_option maxRecDepth 100000
namespace Mn
open PySem
variable {P : Nat → Option FDef} {sub : Nat → Nat → Option Bool}
def leafOk : PyData → Bool
  | .tuple [a, b] => isName a && isWorths b 1 8
  | _ => false
def fst2 : PyData → PyData
  | .tuple [a, _] => a
  | _ => .none
def namesOf (xs : List PyData) : List Str := strsOf (xs.map fst2)
def isGround : PyData → Bool
  | .tuple xs => decide ((1 : Int) ≤ (xs.length : Int)) && (decide ((xs.length : Int) ≤ 40) && (xs.all leafOk && rise (namesOf xs)))
  | _ => false
theorem isName_str {d : PyData} (h : isName d = true) : ∃ s, d = .str s := by
  cases d with
  | str s => exact ⟨s, rfl⟩
  | _ => simp [isName] at h
theorem leafOk_shape {x : PyData} (h : leafOk x = true) : ∃ s b, x = .tuple [.str s, b] ∧ isName (.str s) = true ∧ isWorths b 1 8 = true := by
  match x, h with
  | .tuple [a, b], h =>
    have h' : (isName a && isWorths b 1 8) = true := h
    rw [Bool.and_eq_true] at h'
    obtain ⟨s, rfl⟩ := isName_str h'.1
    exact ⟨s, b, rfl, h'⟩
theorem names_strs : ∀ xs : List PyData, xs.all leafOk = true → xs.map fst2 = (namesOf xs).map .str
  | [], _ => rfl
  | x :: xs, h => by
    rw [List.all_cons, Bool.and_eq_true] at h
    have ih := names_strs xs h.2
    obtain ⟨s, b, rfl, _⟩ := leafOk_shape h.1
    show PyData.str s :: xs.map fst2 = PyData.str s :: (namesOf xs).map .str
    rw [← ih]
theorem isPair_shape {x : PyData} (h : isPair x = true) : ∃ a b, x = .tuple [a, b] := by
  match x, h with
  | .tuple [a, b], _ => exact ⟨a, b, rfl⟩
theorem isPair_leaf {x : PyData} (h : isPair x = false) : leafOk x = false := by
  match x, h with
  | .tuple [], _ => rfl
  | .tuple [_], _ => rfl
  | .tuple (_ :: _ :: _ :: _), _ => rfl
  | .none, _ => rfl
  | .bool _, _ => rfl
  | .int _, _ => rfl
  | .str _, _ => rfl
  | .list _, _ => rfl
  | .dict _, _ => rfl
def gBody : Ss := (.cons (.if_ (.or_ (.not_ (.pcall 274 (.cons (.var 1) .nil))) (.or_ (.not_ (.pcall 265 (.cons (.idx (.var 1) (.cst (.int 0))) .nil))) (.not_ (.pcall 296 (.cons (.idx (.var 1) (.cst (.int 1))) (.cons (.cst (.int 1)) (.cons (.cst (.int 8)) .nil))))))) (.cons (.ret (.cst (.bool false))) .nil) .nil) .nil)
theorem idx2_0 (a b : PyData) : idxD (.tuple [a, b]) (.int 0) = some a := rfl
theorem idx2_1 (a b : PyData) : idxD (.tuple [a, b]) (.int 1) = some b := rfl
theorem okD_pair {a b : PyData} (h : okD (.tuple [a, b]) = true) : okD a = true ∧ okD b = true := by
  have h' : (big 2 && (okD a && (okD b && true))) = true := h
  simp only [Bool.and_eq_true] at h'
  exact ⟨h'.2.1, h'.2.2.1⟩
structure HasGround (P : Nat → Option FDef) : Prop where
  wo : P 295 = some Fn.is_worth
  na : P 265 = some Fn.is_name
  ri : P 280 = some Fn.is_rising
  pa : P 274 = some Fn.is_pair
  ws : P 296 = some Fn.is_worths
  gr : P 259 = some Fn.is_ground
theorem gBody_ev (hP : HasGround P) (k : Nat) (x : PyData) (hx : okD x = true) (t : RV) (mh : MH) :
    evSs (CF P sub (k + 2)) gBody [some t, some (.dat x), none, none] mh = if leafOk x then .next [some t, some (.dat x), none, none] mh else .ret (.dat (.bool false)) mh := by
  have c1 := fun mh => c_is_pair (sub := sub) hP.pa (k + 1) x mh
  cases e : isPair x with
  | false =>
    rw [isPair_leaf e]
    simp [gBody, RV.isDat, c1, e]
  | true =>
    obtain ⟨a, b, rfl⟩ := isPair_shape e
    obtain ⟨ha, hb⟩ := okD_pair hx
    have c2 := fun mh => c_is_name (sub := sub) hP.na hP.wo k a mh ha
    have c3 := fun mh => c_is_worths (sub := sub) hP.ws hP.wo hP.ri k b 1 8 mh hb
    cases e2 : isName a with
    | false => simp [gBody, RV.isDat, c1, e, idx2_0, c2, e2, leafOk]
    | true =>
      cases e3 : isWorths b 1 8 with
      | false => simp [gBody, RV.isDat, c1, e, idx2_0, idx2_1, c2, c3, e2, e3, leafOk]
      | true => simp [gBody, RV.isDat, c1, e, idx2_0, idx2_1, c2, c3, e2, e3, leafOk]
theorem c_is_ground (hP : HasGround P) (k : Nat) (d : PyData) (mh : MH) (hd : okD d = true) : (CF P sub (k + 3)).call 259 [.dat d] mh = .ok (.dat (.bool (isGround d))) mh := by
  rw [cf_succ hP.gr]
  cases d with
  | tuple xs =>
    have hd' : (big xs.length && okD.okA xs) = true := hd
    rw [Bool.and_eq_true] at hd'
    have l1 : cmpD .LtE (.int 1) (.int (xs.length : Int)) = some (decide ((1 : Int) ≤ (xs.length : Int))) := cmp_le_int _ _
    have l2 : cmpD .LtE (.int (xs.length : Int)) (.int 40) = some (decide ((xs.length : Int) ≤ 40)) := cmp_le_int _ _
    have hL := forB_until (C := CF P sub (k + 2)) (t := .nm 1) (body := gBody) (I := fun env => ∃ a, env = [some (.dat (.tuple xs)), a, none, none]) (P := leafOk) (r := .dat (.bool false)) (mh := mh) xs [some (.dat (.tuple xs)), none, none, none] ⟨none, rfl⟩ (by
      rintro x hx env ⟨a, rfl⟩
      refine ⟨[some (.dat (.tuple xs)), some (.dat x), none, none], rfl, fun h => ⟨[some (.dat (.tuple xs)), some (.dat x), none, none], .inl ?_, ⟨some (.dat x), rfl⟩⟩, fun h => ?_⟩
      · rw [gBody_ev hP k x (okA_mem hd'.2 hx), if_pos h]
      · rw [gBody_ev hP k x (okA_mem hd'.2 hx), h]; rfl)
    unfold gBody at hL
    cases e3 : xs.all leafOk with
    | false =>
      have hL := hL.2 e3
      rcases Bool.eq_false_or_eq_true (decide ((1 : Int) ≤ (xs.length : Int))) with e1 | e1 <;> rcases Bool.eq_false_or_eq_true (decide ((xs.length : Int) ≤ 40)) with e2 | e2 <;>
        simp [runF, Fn.is_ground, RV.passes, tyD, bltD, un, lenD, l1, l2, e1, e2, isGround, evItF, itemsD, hL, e3, -decide_eq_true_eq, -List.all_eq_true, -decide_eq_false_iff_not, -List.all_eq_false]
    | true =>
      obtain ⟨env', hL, a, rfl⟩ := hL.1 e3
      have hcm : ∀ mh, (evP (CF P sub (k + 2)) (.comp (.var 2) (.cons (.nm 2) (.cons (.nm 3) .nil)) (.of (.var 0)) (.cst (.bool true)) [2, 3])).1 [some (.dat (.tuple xs)), a, none, none] mh = .ok (.dat (.list ((namesOf xs).map .str))) mh := fun mh => by
        rw [← names_strs xs e3]
        refine ev_map (mh1 := mh) (xs := xs) (by simp [evIt, itemsD]) hd'.1 fun x hx => ?_
        obtain ⟨s, b, rfl, _⟩ := leafOk_shape (List.all_eq_true.mp e3 x hx)
        simp [cmpTurn, bindT, wipeM, fst2]
      have hr := fun mh => c_is_rising (sub := sub) hP.ri (k + 1) (namesOf xs) (.list ((namesOf xs).map .str)) (.inl rfl) mh (by
        have : (namesOf xs).length = xs.length := by have := congrArg List.length (names_strs xs e3); simpa using this.symm
        rw [this]; exact hd'.1)
      rcases Bool.eq_false_or_eq_true (decide ((1 : Int) ≤ (xs.length : Int))) with e1 | e1 <;> rcases Bool.eq_false_or_eq_true (decide ((xs.length : Int) ≤ 40)) with e2 | e2 <;>
        simp [runF, Fn.is_ground, RV.passes, RV.isDat, tyD, bltD, un, lenD, l1, l2, e1, e2, isGround, evItF, itemsD, hL, e3, hcm, hr, -decide_eq_true_eq, -List.all_eq_true, -decide_eq_false_iff_not, -List.all_eq_false]
  | _ => simp [runF, Fn.is_ground, RV.passes, RV.isDat, tyD, isGround]
end Mn
end
section
set_option linter.all false
set_option autoImplicit false
set_option maxRecDepth 100000
namespace Mn
open PySem
variable {P : Nat → Option FDef} {sub : Nat → Nat → Option Bool}
/-! ### a ground, as data -/
abbrev Gr := List (Str × List Str)
def leafD (p : Str × List Str) : PyData := .tuple [.str p.1, tS p.2]
def gD (g : Gr) : PyData := .tuple (g.map leafD)
theorem lenD_tuple (xs : List PyData) : lenD (.tuple xs) = some (.int xs.length) := rfl
theorem lenD_list (xs : List PyData) : lenD (.list xs) = some (.int xs.length) := rfl
structure HasAsk (P : Nat → Option FDef) : Prop extends HasGround P where
  wd : P 294 = some Fn.is_word
  ak : P 190 = some Fn.ask_ground
  so : P 285 = some Fn.is_state_of
  eo : P 253 = some Fn.is_edit_of
  st : P 284 = some Fn.is_state
  ed : P 251 = some Fn.is_edit
theorem c_ask_ok (hP : HasAsk P) (k : Nat) (d : PyData) (mh : MH) (hd : okD d = true) (hg : isGround d = true) : (CF P sub (k + 4)).call 190 [.dat d] mh = .ok (.dat .none) mh := by
  have h := fun mh => c_is_ground (sub := sub) hP.toHasGround k d mh hd
  rw [cf_succ hP.ak]
  simp [runF, Fn.ask_ground, RV.passes, RV.isDat, h, hg]
theorem c_ask_no (hP : HasAsk P) (k : Nat) (d : PyData) (mh : MH) (hd : okD d = true) (hg : isGround d = false) : (CF P sub (k + 4)).call 190 [.dat d] mh = .exc ⟨15, none⟩ mh := by
  have h := fun mh => c_is_ground (sub := sub) hP.toHasGround k d mh hd
  rw [cf_succ hP.ak]
  simp [runF, Fn.ask_ground, RV.passes, RV.isDat, h, hg]
/-- only a tuple's sizes matter -/
def okT : PyData → Bool
  | .tuple xs => okD (.tuple xs)
  | _ => true
theorem okT_of {d : PyData} (h : okD d = true) : okT d = true := by
  cases d with
  | tuple xs => exact h
  | _ => rfl
def stateRow : List PyData → Gr → List Bool
  | x :: xs, p :: g => isWord x p.2 :: stateRow xs g
  | _, _ => []
def isStateOf (g : Gr) : PyData → Bool
  | .tuple xs => decide ((xs.length : Int) = (g.length : Int)) && (stateRow xs g).all id
  | _ => false
theorem stateRow_zip (f : PyData → PyData) (hf : ∀ x p, f (.tuple [x, leafD p]) = .bool (isWord x p.2)) : ∀ (xs : List PyData) (g : Gr), (zipD2 xs (g.map leafD)).map f = (stateRow xs g).map .bool
  | [], _ => rfl
  | _ :: _, [] => rfl
  | x :: xs, p :: g => by
    show f _ :: (zipD2 xs (g.map leafD)).map f = .bool (isWord x p.2) :: (stateRow xs g).map .bool
    rw [stateRow_zip f hf xs g, hf]
theorem zip_mem : ∀ {xs : List PyData} {g : Gr} {z : PyData}, z ∈ zipD2 xs (g.map leafD) → ∃ x p, z = .tuple [x, leafD p]
  | x :: xs, p :: g, z, h => by
    have h' : z ∈ PyData.tuple [x, leafD p] :: zipD2 xs (g.map leafD) := h
    rcases List.mem_cons.mp h' with e | e
    · exact ⟨x, p, e⟩
    · exact zip_mem e
theorem zip_len : ∀ (xs : List PyData) (g : Gr), (zipD2 xs (g.map leafD)).length ≤ xs.length
  | [], _ => Nat.le_refl 0
  | _ :: _, [] => Nat.zero_le _
  | x :: xs, p :: g => Nat.succ_le_succ (zip_len xs g)
def wordTurn : PyData → PyData
  | .tuple [x, .tuple [_, .tuple ws]] => .bool (isWord x (strsOf ws))
  | _ => .none
theorem strsOf_map : ∀ ss : List Str, strsOf (ss.map .str) = ss
  | [] => rfl
  | s :: ss => by
    show s :: strsOf (ss.map .str) = s :: ss
    rw [strsOf_map ss]
theorem wordTurn_leaf (x : PyData) (p : Str × List Str) : wordTurn (.tuple [x, leafD p]) = .bool (isWord x p.2) := by
  show PyData.bool (isWord x (strsOf (p.2.map .str))) = _
  rw [strsOf_map]
theorem allD_bools (bs : List Bool) : allD (.list (bs.map .bool)) = some (.bool (bs.all id)) := all_map id bs
def boolsL (bs : List Bool) : PyData := .list (bs.map .bool)
theorem allD_boolsL (bs : List Bool) : allD (boolsL bs) = some (.bool (bs.all id)) := allD_bools bs
theorem c_is_state_of (hP : HasAsk P) (k : Nat) (g : Gr) (d : PyData) (mh : MH) (hd : okT d = true) : (CF P sub (k + 2)).call 285 [.dat (gD g), .dat d] mh = .ok (.dat (.bool (isStateOf g d))) mh := by
  rw [cf_succ hP.so]
  cases d with
  | tuple xs =>
    have hd' : (big xs.length && okD.okA xs) = true := hd
    rw [Bool.and_eq_true] at hd'
    have l1 : cmpD .NotEq (.int (xs.length : Int)) (.int (g.length : Int)) = some (!decide ((xs.length : Int) = (g.length : Int))) := cmp_ne_int _ _
    have lg : lenD (gD g) = some (.int (g.length : Int)) := by simp [lenD, gD]
    have sg : seqD (gD g) = some (g.map leafD) := rfl
    have cw := fun x ws mh => c_is_word (sub := sub) hP.wd k x ws mh
    have hcm : (evP (CF P sub (k + 1)) (.comp (.pcall 294 (.cons (.var 2) (.cons (.idx (.var 3) (.cst (.int 1))) .nil))) (.cons (.nm 2) (.cons (.nm 3) .nil)) (.zip2 (.var 1) (.var 0)) (.cst (.bool true)) [2, 3])).1 [some (.dat (gD g)), some (.dat (.tuple xs)), none, none] mh = .ok (.dat (boolsL (stateRow xs g))) mh := by
      unfold boolsL
      rw [← stateRow_zip wordTurn wordTurn_leaf]
      refine ev_map (mh1 := mh) (xs := zipD2 xs (g.map leafD)) (f := wordTurn) (by simp [evIt, seqD, sg]; rfl) (decide_eq_true (Nat.le_trans (zip_len xs g) (of_decide_eq_true hd'.1))) fun z hz => ?_
      obtain ⟨x, p, rfl⟩ := zip_mem hz
      have h1 : idxD (leafD p) (.int 1) = some (tS p.2) := rfl
      rw [wordTurn_leaf]
      simp [cmpTurn, bindT, wipeM, h1, cw, RV.isDat]
    cases e1 : decide ((xs.length : Int) = (g.length : Int)) <;>
      simp [runF, Fn.is_state_of, RV.passes, RV.isDat, tyD, bltD, un, lenD_tuple, lg, l1, e1, isStateOf, hcm, allD_boolsL, -decide_eq_true_eq, -List.all_eq_true, -decide_eq_false_iff_not, -List.all_eq_false]
  | _ => simp [runF, Fn.is_state_of, RV.passes, RV.isDat, tyD, isStateOf]
theorem c_is_state (hP : HasAsk P) (k : Nat) (g : Gr) (d : PyData) (mh : MH) (hd : okT d = true) (hg : okD (gD g) = true) (h : isGround (gD g) = true) : (CF P sub (k + 5)).call 284 [.dat (gD g), .dat d] mh = .ok (.dat (.bool (isStateOf g d))) mh := by
  have h1 := fun mh => c_ask_ok (sub := sub) hP k (gD g) mh hg h
  have h2 := fun mh => c_is_state_of (sub := sub) hP (k + 2) g d mh hd
  rw [cf_succ hP.st]
  simp [runF, Fn.is_state, RV.passes, RV.isDat, h1, h2]
theorem c_is_state_no (hP : HasAsk P) (k : Nat) (w d : PyData) (mh : MH) (hg : okD w = true) (h : isGround w = false) : (CF P sub (k + 5)).call 284 [.dat w, .dat d] mh = .exc ⟨15, none⟩ mh := by
  have h1 := fun mh => c_ask_no (sub := sub) hP k w mh hg h
  rw [cf_succ hP.st]
  simp [runF, Fn.is_state, RV.passes, RV.isDat, h1]
theorem c_is_edit_no (hP : HasAsk P) (k : Nat) (w d : PyData) (mh : MH) (hg : okD w = true) (h : isGround w = false) : (CF P sub (k + 5)).call 251 [.dat w, .dat d] mh = .exc ⟨15, none⟩ mh := by
  have h1 := fun mh => c_ask_no (sub := sub) hP k w mh hg h
  rw [cf_succ hP.ed]
  simp [runF, Fn.is_edit, RV.passes, RV.isDat, h1]
end Mn
end
section
set_option linter.all false
set_option autoImplicit false
set_option maxRecDepth 100000
namespace Mn
open PySem
variable {P : Nat → Option FDef} {sub : Nat → Nat → Option Bool}
def look : Gr → Str → Option (List Str)
  | [], _ => none
  | (k, v) :: g, s => if k = s then some v else look g s
def kvsOf (g : Gr) : List (PyData × PyData) := g.map fun p => (.str p.1, tS p.2)
theorem dget_kvs (s : Str) : ∀ g : Gr, dget (kvsOf g) (.str s) = (look g s).map tS
  | [] => rfl
  | (k, v) :: g => by
    show (if keyEq (.str k) (.str s) then some (tS v) else dget (kvsOf g) (.str s)) = (if k = s then some v else look g s).map tS
    rw [dget_kvs s g]
    by_cases h : k = s
    · simp [keyEq, key1Eq, h]
    · simp [keyEq, key1Eq, h]
theorem kind_kvs (s : Str) (g : Gr) : kindOk (kvsOf g) (.str s) = true := by
  have : ((kvsOf g).all fun p => isKey1 p.1) = true := by
    rw [List.all_eq_true]; intro p hp
    obtain ⟨q, _, rfl⟩ := List.mem_map.mp hp
    rfl
  unfold kindOk
  rw [this]
  rfl
theorem pairs_kvs : ∀ (g acc : Gr), ((acc ++ g).map (·.1)).Nodup → pairsD (g.map leafD) (kvsOf acc) = some (kvsOf (acc ++ g))
  | [], acc, _ => by simp [pairsD]
  | p :: g, acc, h => by
    have h1 : dput (kvsOf acc) (.str p.1) (tS p.2) = kvsOf (acc ++ [p]) := by
      have : ((kvsOf acc).any fun q => keyEq q.1 (.str p.1)) = false := by
        rw [List.any_eq_false]; intro q hq
        obtain ⟨r, hr, rfl⟩ := List.mem_map.mp hq
        have hne : r.1 ≠ p.1 := by
          intro e
          rw [List.map_append, List.map_cons] at h
          exact (List.nodup_append.mp h).2.2 r.1 (List.mem_map_of_mem hr) p.1 List.mem_cons_self e
        simp [keyEq, key1Eq, hne]
      unfold dput
      rw [this]
      simp [kvsOf]
    have ih := pairs_kvs g (acc ++ [p]) (by rw [List.append_assoc]; exact h)
    rw [List.append_assoc] at ih
    show (if isKey1 (.str p.1) then pairsD (g.map leafD) (dput (kvsOf acc) (.str p.1) (tS p.2)) else none) = _
    rw [h1]
    exact ih
theorem rise_tail {a : Str} {ss : List Str} (h : rise (a :: ss) = true) : rise ss = true := by
  cases ss with
  | nil => rfl
  | cons b r =>
    have h' : (decide (a.cps.toList < b.cps.toList) && rise (b :: r)) = true := h
    rw [Bool.and_eq_true] at h'
    exact h'.2
theorem rise_lt : ∀ (ss : List Str) (a : Str), rise (a :: ss) = true → ∀ b ∈ ss, a.cps.toList < b.cps.toList
  | c :: r, a, h, b, hb => by
    have h' : (decide (a.cps.toList < c.cps.toList) && rise (c :: r)) = true := h
    rw [Bool.and_eq_true] at h'
    have h1 : a.cps.toList < c.cps.toList := of_decide_eq_true h'.1
    rcases List.mem_cons.mp hb with e | e
    · rw [e]; exact h1
    · exact List.lt_trans h1 (rise_lt r c h'.2 b e)
theorem rise_nodup : ∀ ss : List Str, rise ss = true → ss.Nodup
  | [], _ => List.nodup_nil
  | a :: ss, h => by
    refine List.nodup_cons.mpr ⟨fun hm => ?_, rise_nodup ss (rise_tail h)⟩
    exact List.lt_irrefl _ (rise_lt ss a h a hm)
theorem names_gD : ∀ g : Gr, namesOf (g.map leafD) = g.map (·.1)
  | [] => rfl
  | p :: g => by
    show p.1 :: namesOf (g.map leafD) = _
    rw [names_gD g]; rfl
theorem ground_nodup {g : Gr} (h : isGround (gD g) = true) : (g.map (·.1)).Nodup := by
  have h' : (decide ((1 : Int) ≤ ((g.map leafD).length : Int)) && (decide (((g.map leafD).length : Int) ≤ 40) && ((g.map leafD).all leafOk && rise (namesOf (g.map leafD))))) = true := h
  simp only [Bool.and_eq_true] at h'
  rw [← names_gD]
  exact rise_nodup _ h'.2.2.2
def editLeaf (g : Gr) : PyData → Bool
  | .tuple [.str s, b] => (match look g s with
    | some ws => isWord b ws
    | none => false)
  | _ => false
def isEditOf (g : Gr) : PyData → Bool
  | .tuple xs => xs.all (editLeaf g) && rise (namesOf xs)
  | _ => false
theorem editLeaf_shape {g : Gr} {x : PyData} (h : editLeaf g x = true) : ∃ s b, x = .tuple [.str s, b] := by
  match x, h with
  | .tuple [.str s, b], _ => exact ⟨s, b, rfl⟩
theorem editLeaf_nopair {g : Gr} {x : PyData} (h : isPair x = false) : editLeaf g x = false := by
  match x, h with
  | .tuple [], _ => rfl
  | .tuple [a], _ => (cases a <;> rfl)
  | .tuple (a :: b :: c :: d), _ => simp [editLeaf]
  | .none, _ => rfl
  | .bool _, _ => rfl
  | .int _, _ => rfl
  | .str _, _ => rfl
  | .list _, _ => rfl
  | .dict _, _ => rfl
theorem edit_names {g : Gr} : ∀ xs : List PyData, xs.all (editLeaf g) = true → xs.map fst2 = (namesOf xs).map .str
  | [], _ => rfl
  | x :: xs, h => by
    rw [List.all_cons, Bool.and_eq_true] at h
    have ih := edit_names xs h.2
    obtain ⟨s, b, rfl⟩ := editLeaf_shape h.1
    show PyData.str s :: xs.map fst2 = PyData.str s :: (namesOf xs).map .str
    rw [← ih]
def eBody : Ss := (.cons (.if_ (.or_ (.not_ (.pcall 274 (.cons (.var 3) .nil))) (.or_ (.not_ (.isi (.idx (.var 3) (.cst (.int 0))) .str)) (.cmp .NotIn (.idx (.var 3) (.cst (.int 0))) (.var 2)))) (.cons (.ret (.cst (.bool false))) .nil) .nil) (.cons (.if_ (.not_ (.pcall 294 (.cons (.idx (.var 3) (.cst (.int 1))) (.cons (.idx (.var 2) (.idx (.var 3) (.cst (.int 0)))) .nil)))) (.cons (.ret (.cst (.bool false))) .nil) .nil) .nil))
theorem eBody_ev (hP : HasAsk P) (k : Nat) (g : Gr) (x : PyData) (t u : RV) (mh : MH) :
    evSs (CF P sub (k + 1)) eBody [some t, some u, some (.dat (.dict (kvsOf g))), some (.dat x), none, none] mh = if editLeaf g x then .next [some t, some u, some (.dat (.dict (kvsOf g))), some (.dat x), none, none] mh else .ret (.dat (.bool false)) mh := by
  have c1 := fun mh => c_is_pair (sub := sub) hP.pa k x mh
  cases e : isPair x with
  | false =>
    rw [editLeaf_nopair e]
    simp [eBody, RV.isDat, c1, e]
  | true =>
    obtain ⟨a, b, rfl⟩ := isPair_shape e
    cases a with
    | str s =>
      have c2 := fun ws mh => c_is_word (sub := sub) hP.wd k b ws mh
      have hn : cmpD .NotIn (.str s) (.dict (kvsOf g)) = some (!(look g s).isSome) := by
        show ((if kindOk (kvsOf g) (.str s) then some (dget (kvsOf g) (.str s)).isSome else none : Option Bool).map not) = _
        rw [kind_kvs, dget_kvs, if_pos rfl]
        cases look g s <;> rfl
      have hi : idxD (.dict (kvsOf g)) (.str s) = (look g s).map tS := by
        show (if kindOk (kvsOf g) (.str s) then dget (kvsOf g) (.str s) else none) = _
        rw [kind_kvs, dget_kvs, if_pos rfl]
      cases e2 : look g s with
      | none => simp [eBody, RV.isDat, c1, e, idx2_0, idx2_1, tyD, hn, e2, editLeaf]
      | some ws =>
        cases e3 : isWord b ws with
        | false => simp [eBody, RV.isDat, c1, e, idx2_0, idx2_1, tyD, hn, hi, e2, editLeaf, c2, e3]
        | true => simp [eBody, RV.isDat, c1, e, idx2_0, idx2_1, tyD, hn, hi, e2, editLeaf, c2, e3]
    | _ => simp [eBody, RV.isDat, c1, e, idx2_0, idx2_1, tyD, editLeaf]
theorem c_is_edit_of (hP : HasAsk P) (k : Nat) (g : Gr) (d : PyData) (mh : MH) (hd : okT d = true) (hg : (g.map (·.1)).Nodup) : (CF P sub (k + 2)).call 253 [.dat (gD g), .dat d] mh = .ok (.dat (.bool (isEditOf g d))) mh := by
  rw [cf_succ hP.eo]
  cases d with
  | tuple xs =>
    have hd' : (big xs.length && okD.okA xs) = true := hd
    rw [Bool.and_eq_true] at hd'
    have hk : dctD (gD g) = some (.dict (kvsOf g)) := by
      show (pairsD (g.map leafD) (kvsOf [])).map PyData.dict = _
      rw [pairs_kvs g [] hg]; rfl
    have hL := forB_until (C := CF P sub (k + 1)) (t := .nm 3) (body := eBody) (I := fun env => ∃ a, env = [some (.dat (gD g)), some (.dat (.tuple xs)), some (.dat (.dict (kvsOf g))), a, none, none]) (P := editLeaf g) (r := .dat (.bool false)) (mh := mh) xs [some (.dat (gD g)), some (.dat (.tuple xs)), some (.dat (.dict (kvsOf g))), none, none, none] ⟨none, rfl⟩ (by
      rintro x hx env ⟨a, rfl⟩
      refine ⟨[some (.dat (gD g)), some (.dat (.tuple xs)), some (.dat (.dict (kvsOf g))), some (.dat x), none, none], rfl, fun h => ⟨[some (.dat (gD g)), some (.dat (.tuple xs)), some (.dat (.dict (kvsOf g))), some (.dat x), none, none], .inl ?_, ⟨some (.dat x), rfl⟩⟩, fun h => ?_⟩
      · rw [eBody_ev hP k g x, if_pos h]
      · rw [eBody_ev hP k g x, h]; rfl)
    unfold eBody at hL
    cases e3 : xs.all (editLeaf g) with
    | false =>
      have hL := hL.2 e3
      simp [runF, Fn.is_edit_of, RV.passes, tyD, bltD, un, hk, bindT, isEditOf, evItF, itemsD, hL, e3, -List.all_eq_true, -List.all_eq_false]
    | true =>
      obtain ⟨env', hL, a, rfl⟩ := hL.1 e3
      have hcm : ∀ mh, (evP (CF P sub (k + 1)) (.comp (.var 4) (.cons (.nm 4) (.cons (.nm 5) .nil)) (.of (.var 1)) (.cst (.bool true)) [4, 5])).1 [some (.dat (gD g)), some (.dat (.tuple xs)), some (.dat (.dict (kvsOf g))), a, none, none] mh = .ok (.dat (.list ((namesOf xs).map .str))) mh := fun mh => by
        rw [← edit_names xs e3]
        refine ev_map (mh1 := mh) (xs := xs) (by simp [evIt, itemsD]) hd'.1 fun x hx => ?_
        obtain ⟨s, b, rfl⟩ := editLeaf_shape (List.all_eq_true.mp e3 x hx)
        simp [cmpTurn, bindT, wipeM, fst2]
      have hr := fun mh => c_is_rising (sub := sub) hP.ri k (namesOf xs) (.list ((namesOf xs).map .str)) (.inl rfl) mh (by
        have : (namesOf xs).length = xs.length := by have := congrArg List.length (edit_names xs e3); simpa using this.symm
        rw [this]; exact hd'.1)
      simp [runF, Fn.is_edit_of, RV.passes, RV.isDat, tyD, bltD, un, hk, bindT, isEditOf, evItF, itemsD, hL, e3, hcm, hr, -List.all_eq_true, -List.all_eq_false]
  | _ => simp [runF, Fn.is_edit_of, RV.passes, RV.isDat, tyD, isEditOf]
theorem c_is_edit (hP : HasAsk P) (k : Nat) (g : Gr) (d : PyData) (mh : MH) (hd : okT d = true) (hg : okD (gD g) = true) (h : isGround (gD g) = true) : (CF P sub (k + 5)).call 251 [.dat (gD g), .dat d] mh = .ok (.dat (.bool (isEditOf g d))) mh := by
  have h1 := fun mh => c_ask_ok (sub := sub) hP k (gD g) mh hg h
  have h2 := fun mh => c_is_edit_of (sub := sub) hP (k + 2) g d mh hd (ground_nodup h)
  rw [cf_succ hP.ed]
  simp [runF, Fn.is_edit, RV.passes, RV.isDat, h1, h2]
end Mn
end
section
set_option linter.all false
set_option autoImplicit false
set_option maxRecDepth 100000
namespace Mn
open PySem
variable {P : Nat → Option FDef} {sub : Nat → Nat → Option Bool}
/-- a loop that keeps a bound -/
theorem forB_inv {C : CallF} {t : Tg} {body : Ss} {I : Nat → MEnv → MH → Prop} (N : Nat) : ∀ (xs : List PyData) (n : Nat) (env : MEnv) (mh : MH), n + xs.length ≤ N → I n env mh →
    (∀ x ∈ xs, ∀ n env mh, n < N → I n env mh → ∃ env', bindT t x env = some env' ∧ ∃ env2 mh2, evSs C body env' mh = .next env2 mh2 ∧ I (n + 1) env2 mh2) →
    ∃ env' mh', forB C t body xs env mh = .next env' mh' ∧ I (n + xs.length) env' mh'
  | [], n, env, mh, _, hI, _ => ⟨env, mh, rfl, hI⟩
  | x :: xs, n, env, mh, hN, hI, h => by
    rw [List.length_cons] at hN
    obtain ⟨env', hb, env2, mh2, e, hI2⟩ := h x List.mem_cons_self n env mh (by omega) hI
    obtain ⟨env3, mh3, e3, hI3⟩ := forB_inv (C := C) (t := t) (body := body) (I := I) N xs (n + 1) env2 mh2 (by omega) hI2 fun y hy => h y (List.mem_cons_of_mem _ hy)
    refine ⟨env3, mh3, ?_, ?_⟩
    · show (match bindT t x env with
        | some env' => (evSs C body env' mh).turn (forL t (fun env mh => evSs C body env mh) xs)
        | none => .stuck) = _
      rw [hb]
      show (evSs C body env' mh).turn _ = _
      rw [e]
      exact e3
    · rw [List.length_cons, Nat.add_comm xs.length 1, ← Nat.add_assoc]; exact hI3
/-- a row of ints -/
def iL (is : List Int) : List PyData := is.map .int
/-! ### a draw -/
theorem r_next_nil (C : CallF) (n : Nat) (m : Int) (mh : MH) (h : mh[n]? = some (.lst [])) : runF C Fn.x_law_next [.ref n, .dat (.int m)] mh = .ok (.dat (.int 0)) mh := by
  have hv : view mh (.ref n) = some (.list []) := by simp [view, h]
  simp [runF, Fn.x_law_next, RV.passes, hv]
theorem r_next_cons (C : CallF) (n : Nat) (m i : Int) (is : List Int) (mh : MH) (hm : 0 < m) (h : mh[n]? = some (.lst (iL (i :: is)))) : runF C Fn.x_law_next [.ref n, .dat (.int m)] mh = .ok (.dat (.int (i % m))) (mh.set n (.lst (iL is))) := by
  have hv : view mh (.ref n) = some (.list (.int i :: iL is)) := by simp [view, h, iL]
  have hl : isLstC (.ref n) mh = true := by simp [isLstC, h]
  have hp : popC (.ref n) [.int 0] mh = .ok (.dat (.int i)) (mh.set n (.lst (iL is))) := by
    have hi : ixD (is.length + 1) 0 = some 0 := by
      have : (0 : Int) < (is.length : Int) + 1 := by omega
      simp [ixD, L2.ixN, this]
    have hs : small62 0 = true := by decide
    simp [popC, h, hs, hi, iL]
  have hb : binD .Mod (.int i) (.int m) = some (.int (i % m)) := by simp [binD, hm]
  simp [runF, Fn.x_law_next, RV.passes, hv, hl, hp, hb, bltD, un, intD]
/-- a draw: some number below, the row of draws is another -/
def drw (n : Nat) (mh mh' : MH) : Prop := ∃ is, mh' = mh.set n (.lst (iL is))
theorem c_next (h : P 103 = some Fn.x_law_next) (k n : Nat) (m : Int) (is : List Int) (mh : MH) (hm : 0 < m) (hn : mh[n]? = some (.lst (iL is))) :
    ∃ j js, (CF P sub (k + 1)).call 103 [.ref n, .dat (.int m)] mh = .ok (.dat (.int j)) (mh.set n (.lst (iL js))) ∧ 0 ≤ j ∧ j < m := by
  cases is with
  | nil =>
    refine ⟨0, [], ?_, by omega, hm⟩
    rw [cf_succ h, r_next_nil _ n m mh hn]
    congr 1
    have hn' : n < mh.length := by
      rcases Nat.lt_or_ge n mh.length with h | h
      · exact h
      · rw [List.getElem?_eq_none h] at hn; cases hn
    have : mh[n] = Cell.lst (iL []) := by rw [List.getElem?_eq_getElem hn'] at hn; exact Option.some.inj hn
    rw [← this, List.set_getElem_self]
  | cons i is => exact ⟨i % m, is, by rw [cf_succ h, r_next_cons _ n m i is mh hm hn], Int.emod_nonneg _ (by omega), Int.emod_lt_of_pos _ hm⟩
/-! ### the draws -/
def dBody : Ss := (.cons (.asg (.nm 7) (.bin .Mod (.blt .int (.cons (.var 6) .nil)) (.blt .len (.cons (.var 2) .nil)))) (.cons (.if_ (.and_ (.cmp .GtE (.idx (.var 2) (.var 7)) (.bin .Pow (.cst (.int 10)) (.cst (.int 18)))) (.cmp .Gt (.idx (.var 4) (.var 7)) (.cst (.int 0)))) (.cons (.app 5 (.bin .Mod (.blt .int (.cons (.idx (.var 4) (.var 7)) .nil)) (.cst (.int 1000)))) (.cons (.setI 4 (.var 7) (.bin .FloorDiv (.idx (.var 4) (.var 7)) (.cst (.int 1000)))) .nil)) (.cons (.asg (.nm 8) (.bin .Mod (.blt .int (.cons (.bin .Add (.bin .Mult (.bin .Add (.idx (.var 2) (.var 7)) (.cst (.int 7))) (.cst (.int 48271))) (.bin .Mult (.bin .Add (.var 6) (.cst (.int 1))) (.cst (.int 69621)))) .nil)) (.cst (.int 2147483647)))) (.cons (.asg (.nm 8) (.bin .Mod (.blt .int (.cons (.bin .Add (.bin .Add (.bin .Mult (.var 8) (.cst (.int 16807))) (.bin .Mult (.bin .Mult (.var 6) (.var 6)) (.cst (.int 40692)))) (.cst (.int 12345))) .nil)) (.cst (.int 2147483399)))) (.cons (.app 5 (.bin .FloorDiv (.var 8) (.cst (.int 64)))) .nil)))) .nil))
theorem bAdd (i j : Int) : binD .Add (.int i) (.int j) = some (.int (i + j)) := rfl
theorem bMod (i j : Int) (h : 0 < j) : binD .Mod (.int i) (.int j) = some (.int (i % j)) := by simp [binD, h]
theorem bMul (i j : Int) (h : small64 i = true ∨ small64 j = true) : binD .Mult (.int i) (.int j) = some (.int (i * j)) := by
  rcases h with h | h <;> simp [binD, h]
theorem bDiv (i j : Int) (h : 0 < j ∧ j < 1073741824) : binD .FloorDiv (.int i) (.int j) = some (.int (i / j)) := by simp [binD, h]
theorem iL_at (is : List Int) (j : Int) (h : 0 ≤ j ∧ j < is.length) : ∃ i, idxD (.list (iL is)) (.int j) = some (.int i) := by
  obtain ⟨n, rfl⟩ := Int.eq_ofNat_of_zero_le h.1
  have hn : n < is.length := by omega
  refine ⟨is[n], ?_⟩
  show atD (iL is) (n : Int) = _
  rw [atD_nat, iL, List.getElem?_map, List.getElem?_eq_getElem hn]; rfl
theorem iL_put (is : List Int) (j v : Int) (h : 0 ≤ j ∧ j < is.length) : ∃ js : List Int, js.length = is.length ∧ putC (.list (iL is)) (.int j) (.int v) = some (.list (iL js)) := by
  obtain ⟨n, rfl⟩ := Int.eq_ofNat_of_zero_le h.1
  have hn : n < is.length := by omega
  refine ⟨is.set n v, by simp, ?_⟩
  have hi : ixD (iL is).length (n : Int) = some n := by
    have h1 : (n : Int) < ((iL is).length : Int) := by simp [iL]; exact hn
    have h0 : (0 : Int) ≤ n := by omega
    simp [ixD, L2.ixN, h1, h0]
  show (ixD (iL is).length (n : Int)).map (fun j => PyData.list ((iL is).set j (.int v))) = _
  rw [hi]
  simp [iL, List.map_set]
def dEnv (D : PyData) (m : Int) (cs ls ds : List Int) (a b c : Option RV) : MEnv := [some (.dat D), some (.dat (.int m)), some (.dat (.list (iL cs))), none, some (.olst (iL ls)), some (.olst (iL ds)), a, b, c]
theorem dBody_ev (C : CallF) (D : PyData) (m : Int) (cs ls ds : List Int) (i : Int) (hi : 0 ≤ i ∧ i < 1000) (hc : 0 < cs.length) (hl : ls.length = cs.length) (hd : ds.length < 1000) (b c : Option RV) (mh : MH) :
    ∃ ls' ds' b' c', evSs C dBody (dEnv D m cs ls ds (some (.dat (.int i))) b c) mh = .next (dEnv D m cs ls' ds' (some (.dat (.int i))) b' c') mh ∧ ls'.length = cs.length ∧ ds'.length = ds.length + 1 := by
  have hm : (0 : Int) < (cs.length : Int) := by omega
  have h1 := bMod i (cs.length : Int) hm
  have hj : 0 ≤ i % (cs.length : Int) ∧ i % (cs.length : Int) < cs.length := ⟨Int.emod_nonneg _ (by omega), Int.emod_lt_of_pos _ hm⟩
  obtain ⟨x, hx⟩ := iL_at cs _ hj
  obtain ⟨y, hy⟩ := iL_at ls (i % (cs.length : Int)) (by rw [hl]; exact hj)
  have hp : binD .Pow (.int 10) (.int 18) = some (.int 1000000000000000000) := by rfl
  have g1 : cmpD .GtE (.int x) (.int 1000000000000000000) = some (decide ((1000000000000000000 : Int) ≤ x)) := cmp_ge_int _ _
  have g2 : cmpD .Gt (.int y) (.int 0) = some (decide (0 < y)) := cmp_gt_int _ _
  have hbg : big ((iL ds).length + 1) = true := decide_eq_true (by simp [iL]; omega)
  have hap : ∀ v : Int, appD (.int v) (.list (iL ds)) = some (.list (iL (ds ++ [v]))) := fun v => by
    show (if big ((iL ds).length + 1) then some (PyData.list (iL ds ++ [.int v])) else none) = _
    rw [hbg]; simp [iL]
  have m1 := bMul (x + 7) 48271 (.inr (by decide))
  have m2 := bMul (i + 1) 69621 (.inr (by decide))
  have a1 := bMod ((x + 7) * 48271 + (i + 1) * 69621) 2147483647 (by decide)
  have m3 := bMul (((x + 7) * 48271 + (i + 1) * 69621) % 2147483647) 16807 (.inr (by decide))
  have m4 := bMul i i (.inl (decide_eq_true (by omega)))
  have m5 := bMul (i * i) 40692 (.inr (by decide))
  have a2 := bMod ((((x + 7) * 48271 + (i + 1) * 69621) % 2147483647) * 16807 + i * i * 40692 + 12345) 2147483399 (by decide)
  have a3 := bDiv (((((x + 7) * 48271 + (i + 1) * 69621) % 2147483647) * 16807 + i * i * 40692 + 12345) % 2147483399) 64 (by decide)
  have a4 := bMod y 1000 (by decide)
  have a5 := bDiv y 1000 (by decide)
  obtain ⟨js, hjs, hput⟩ := iL_put ls (i % (cs.length : Int)) (y / 1000) (by rw [hl]; exact hj)
  have hlen : lenD (.list (iL cs)) = some (.int (cs.length : Int)) := by simp [lenD, iL]
  cases e1 : decide ((1000000000000000000 : Int) ≤ x) with
  | true =>
    cases e2 : decide (0 < y) with
    | true =>
      refine ⟨js, ds ++ [y % 1000], some (.dat (.int (i % (cs.length : Int)))), c, ?_, by rw [hjs, hl], by simp⟩
      simp [dBody, dEnv, bltD, un, intD, hlen, h1, bindT, hx, hy, hp, g1, g2, e1, e2, a4, a5, lstAt, hasAt, upR, hap, hput, -decide_eq_true_eq, -decide_eq_false_iff_not]
    | false =>
      refine ⟨ls, ds ++ [((((x + 7) * 48271 + (i + 1) * 69621) % 2147483647 * 16807 + i * i * 40692 + 12345) % 2147483399) / 64], some (.dat (.int (i % (cs.length : Int)))), some (.dat (.int ((((x + 7) * 48271 + (i + 1) * 69621) % 2147483647 * 16807 + i * i * 40692 + 12345) % 2147483399))), ?_, hl, by simp⟩
      · simp [dBody, dEnv, bltD, un, intD, hlen, h1, bindT, hx, hy, hp, g1, g2, e1, e2, a1, a2, a3, m1, m2, m3, m4, m5, bAdd, lstAt, hasAt, upR, hap, hput, -decide_eq_true_eq, -decide_eq_false_iff_not]
  | false =>
    refine ⟨ls, ds ++ [((((x + 7) * 48271 + (i + 1) * 69621) % 2147483647 * 16807 + i * i * 40692 + 12345) % 2147483399) / 64], some (.dat (.int (i % (cs.length : Int)))), some (.dat (.int ((((x + 7) * 48271 + (i + 1) * 69621) % 2147483647 * 16807 + i * i * 40692 + 12345) % 2147483399))), ?_, hl, by simp⟩
    · simp [dBody, dEnv, bltD, un, intD, hlen, h1, bindT, hx, hy, hp, g1, g2, e1, a1, a2, a3, m1, m2, m3, m4, m5, bAdd, lstAt, hasAt, upR, hap, hput, -decide_eq_true_eq, -decide_eq_false_iff_not]
theorem evS_retM_var {C : CallF} (i : Nat) (env : MEnv) (mh : MH) : evS C (.retM (.var i)) env mh = (match env[i]? with
      | some (some (.olst xs)) => .ret (.olst xs) mh
      | some (some (.odct kvs)) => .ret (.odct kvs) mh
      | _ => .stuck) := rfl
theorem cut_map (ns : List Int) (lo hi : Option Int) : cutD (iL ns) lo hi = iL (cutD ns lo hi) := by
  simp [cutD, iL, List.map_drop, List.map_take]
theorem cut_len {α : Type} (xs : List α) (lo hi : Option Int) : (cutD xs lo hi).length ≤ xs.length := by
  simp [cutD]; omega
def absI (i : Int) : Int := if i < 0 then -i else i
theorem itC_cells (C : CallF) (ns : List Int) (m : Int) (hn : ns.length ≤ 63) (mh : MH) (rest : MEnv) (hr : rest = List.replicate 7 none) :
    (evP C (.comp (.blt .abs (.cons (.blt .int (.cons (.var 3) .nil)) .nil)) (.nm 3) (.of (.slc false true (.var 0) (.cst .none) (.cst (.int 63)))) (.cst (.bool true)) [3])).1 ([some (.dat (scriptD ns)), some (.dat (.int m))] ++ rest) mh = .ok (.dat (.list (iL ((cutD ns none (some 63)).map absI)))) mh := by
  subst hr
  have hs : sliD (scriptD ns) none (some 63) = some (.list (iL (cutD ns none (some 63)))) := by
    show some (PyData.list (cutD (iL ns) none (some 63))) = _
    rw [cut_map]
  have h := ev_map (C := C) (elt := .blt .abs (.cons (.blt .int (.cons (.var 3) .nil)) .nil)) (c := .cst (.bool true)) (tg := .nm 3) (own := [3]) (it := .of (.slc false true (.var 0) (.cst .none) (.cst (.int 63)))) (env := [some (.dat (scriptD ns)), some (.dat (.int m))] ++ List.replicate 7 none) (mh := mh) (mh1 := mh) (xs := iL (cutD ns none (some 63))) (f := fun d => match d with | .int i => .int (absI i) | _ => .none)
    (by simp [evIt, partO, hs, itemsD])
    (decide_eq_true (by have := cut_len ns none (some 63); simp [iL]; omega)) (fun x hx => by
    obtain ⟨i, _, rfl⟩ := List.mem_map.mp hx
    simp [cmpTurn, bindT, wipeM, bltD, un, intD, absD, absI])
  rw [h]
  simp [iL]
theorem c_draws (h : P 31 = some Fn.x_law_draws) (k : Nat) (ns : List Int) (hn : ns.length ≤ 63) (m : Nat) (hm : m ≤ 1000) : ∃ ds : List Int, (CF P sub (k + 1)).call 31 [.dat (scriptD ns), .dat (.int m)] [] = .ok (.olst (iL ds)) [] := by
  have hcm := itC_cells (CF P sub k) ns m hn [] _ rfl
  rw [cf_succ h]
  have key : ∀ cs : List Int, 0 < cs.length → ∃ ls ds a b c, forB (CF P sub k) (.nm 6) dBody (rngD 0 m) (dEnv (scriptD ns) m cs cs [] none none none) [] = .next (dEnv (scriptD ns) m cs ls ds a b c) [] := fun cs hc => by
    obtain ⟨env', mh', e, hI⟩ := forB_inv (C := CF P sub k) (t := .nm 6) (body := dBody) (I := fun n env mh => mh = [] ∧ ∃ ls ds a b c, env = dEnv (scriptD ns) m cs ls ds a b c ∧ ls.length = cs.length ∧ ds.length = n) m (rngD 0 m) 0 (dEnv (scriptD ns) m cs cs [] none none none) [] (by rw [rngD_map, List.length_map, List.length_range]; omega) ⟨rfl, cs, [], none, none, none, rfl, rfl, rfl⟩ (by
      rintro x hx n env mh hn ⟨rfl, ls, ds, a, b, c, rfl, hl, hd⟩
      rw [rngD_map] at hx
      obtain ⟨i, hi, rfl⟩ := List.mem_map.mp hx
      have hi := List.mem_range.mp hi
      obtain ⟨ls', ds', b', c', e, e1, e2⟩ := dBody_ev (CF P sub k) (scriptD ns) m cs ls ds (0 + (i : Int)) ⟨by omega, by omega⟩ hc hl (by omega) b c []
      exact ⟨dEnv (scriptD ns) m cs ls ds (some (.dat (.int (0 + (i : Int))))) b c, rfl, _, _, e, rfl, ls', ds', _, b', c', rfl, e1, by rw [e2, hd]⟩)
    obtain ⟨rfl, ls, ds, a, b, c, rfl, _, _⟩ := hI
    exact ⟨ls, ds, a, b, c, e⟩
  unfold dBody dEnv at key
  rw [show ([some (.dat (scriptD ns)), some (.dat (.int m))] ++ List.replicate 7 none : MEnv) = [some (.dat (scriptD ns)), some (.dat (.int m)), none, none, none, none, none, none, none] from rfl] at hcm
  have hm2 : (m : Int) ≤ 16777216 := by omega
  have hm1 : (-16777216 : Int) ≤ m := by omega
  have hr : evItF (CF P sub k) (.rng1 (.var 1)) = fun env mh => evIt (CF P sub k) (.rng1 (.var 1)) env mh := rfl
  cases e : (cutD ns none (some 63)).map absI with
  | nil =>
    rw [e] at hcm
    obtain ⟨ls, ds, a, b, c, hk⟩ := key [0] Nat.one_pos
    refine ⟨ds, ?_⟩
    simp only [iL, List.map_cons, List.map_nil] at hk hcm
    simp [runF, Fn.x_law_draws, RV.passes, hcm, bindT, bltD, un, lstD, freshV, isFresh, setN, hr, evIt, hm1, hm2, hk, frzR, big, iL, evS_retM_var]
  | cons x xs =>
    rw [e] at hcm
    obtain ⟨ls, ds, a, b, c, hk⟩ := key (x :: xs) (Nat.succ_pos _)
    refine ⟨ds, ?_⟩
    simp only [iL, List.map_cons, List.map_nil] at hk hcm
    simp [runF, Fn.x_law_draws, RV.passes, hcm, bindT, bltD, un, lstD, freshV, isFresh, setN, hr, evIt, hm1, hm2, hk, frzR, big, iL, evS_retM_var]
end Mn
end
section
set_option linter.all false
set_option autoImplicit false
set_option maxRecDepth 100000
namespace Mn
open PySem
variable {P : Nat → Option FDef} {sub : Nat → Nat → Option Bool}
theorem c_nx (h : P 103 = some Fn.x_law_next) (k : Nat) (m : Int) (is : List Int) (hm : 0 < m) :
    ∃ j js, (CF P sub (k + 1)).call 103 [.ref 0, .dat (.int m)] [.lst (iL is)] = .ok (.dat (.int j)) [.lst (iL js)] ∧ 0 ≤ j ∧ j < m := by
  obtain ⟨j, js, e, h1, h2⟩ := c_next (sub := sub) h k 0 m is [.lst (iL is)] hm rfl
  exact ⟨j, js, e, h1, h2⟩
def gNames : List Str := ["a", "b1", "c", "dd", "e"]
def gWorths : List (List Str) := [["0", "1"], ["no", "yes"], ["x", "y", "z"], ["0", "1"], ["2a", "b"], ["u"]]
/-- grounds that the laws draw: the first names, each with one of the six rows -/
def goodG (g : Gr) : Prop := g.map (·.1) = gNames.take g.length ∧ ∀ p ∈ g, p.2 ∈ gWorths
def gnBody : Ss := (.cons (.asg (.nm 5) (.idx (.lst (.cons (.tup (.cons (.cst (.str "0")) (.cons (.cst (.str "1")) .nil))) (.cons (.tup (.cons (.cst (.str "no")) (.cons (.cst (.str "yes")) .nil))) (.cons (.tup (.cons (.cst (.str "x")) (.cons (.cst (.str "y")) (.cons (.cst (.str "z")) .nil)))) (.cons (.tup (.cons (.cst (.str "0")) (.cons (.cst (.str "1")) .nil))) (.cons (.tup (.cons (.cst (.str "2a")) (.cons (.cst (.str "b")) .nil))) (.cons (.tup (.cons (.cst (.str "u")) .nil)) .nil))))))) (.call 103 (.cons (.var 0) (.cons (.cst (.int 6)) .nil))))) (.cons (.app 2 (.tup (.cons (.idx (.var 3) (.var 4)) (.cons (.var 5) .nil)))) .nil))
def gnEnv (m : Int) (g : Gr) (a b : Option RV) : MEnv := [some (.ref 0), some (.dat (.int m)), some (.olst (g.map leafD)), some (.dat (.list (gNames.map .str))), a, b]
theorem worth_at (j : Int) (h0 : 0 ≤ j) (h1 : j < 6) : ∃ ws ∈ gWorths, idxD (.list [tS ["0", "1"], tS ["no", "yes"], tS ["x", "y", "z"], tS ["0", "1"], tS ["2a", "b"], tS ["u"]]) (.int j) = some (tS ws) := by
  obtain ⟨n, rfl⟩ := Int.eq_ofNat_of_zero_le h0
  have hn : n < 6 := by omega
  match n, hn with
  | 0, _ => exact ⟨["0", "1"], .head _, rfl⟩
  | 1, _ => exact ⟨["no", "yes"], .tail _ (.head _), rfl⟩
  | 2, _ => exact ⟨["x", "y", "z"], .tail _ (.tail _ (.head _)), rfl⟩
  | 3, _ => exact ⟨["0", "1"], .head _, rfl⟩
  | 4, _ => exact ⟨["2a", "b"], .tail _ (.tail _ (.tail _ (.tail _ (.head _)))), rfl⟩
  | 5, _ => exact ⟨["u"], .tail _ (.tail _ (.tail _ (.tail _ (.tail _ (.head _))))), rfl⟩
theorem name_at (n : Nat) (hn : n < 5) : ∃ s, idxD (.list (gNames.map .str)) (.int n) = some (.str s) ∧ gNames.take (n + 1) = gNames.take n ++ [s] := by
  match n, hn with
  | 0, _ => exact ⟨_, rfl, rfl⟩
  | 1, _ => exact ⟨_, rfl, rfl⟩
  | 2, _ => exact ⟨_, rfl, rfl⟩
  | 3, _ => exact ⟨_, rfl, rfl⟩
  | 4, _ => exact ⟨_, rfl, rfl⟩
theorem gnBody_ev (h : P 103 = some Fn.x_law_next) (k : Nat) (m : Int) (g : Gr) (hg : goodG g) (hl : g.length < 5) (b : Option RV) (is : List Int) :
    ∃ g' b' js, evSs (CF P sub (k + 1)) gnBody (gnEnv m g (some (.dat (.int g.length))) b) [.lst (iL is)] = .next (gnEnv m g' (some (.dat (.int g.length))) b') [.lst (iL js)] ∧ goodG g' ∧ g'.length = g.length + 1 := by
  obtain ⟨j, js, e, h1, h2⟩ := c_nx (sub := sub) h k 6 is (by decide)
  obtain ⟨ws, hw, e2⟩ := worth_at j h1 h2
  obtain ⟨s, e3, e4⟩ := name_at g.length hl
  have hap : appD (leafD (s, ws)) (.list (g.map leafD)) = some (.list ((g ++ [(s, ws)]).map leafD)) := by
    show (if big ((g.map leafD).length + 1) then some (PyData.list (g.map leafD ++ [leafD (s, ws)])) else none) = _
    have hbg : big ((g.map leafD).length + 1) = true := decide_eq_true (by rw [List.length_map]; omega)
    rw [hbg]
    simp
  refine ⟨g ++ [(s, ws)], some (.dat (tS ws)), js, ?_, ⟨?_, ?_⟩, by simp⟩
  · have e2' : idxD (.list [.tuple [.str "0", .str "1"], .tuple [.str "no", .str "yes"], .tuple [.str "x", .str "y", .str "z"], .tuple [.str "0", .str "1"], .tuple [.str "2a", .str "b"], .tuple [.str "u"]]) (.int j) = some (tS ws) := e2
    have hap' : appD (.tuple [.str s, tS ws]) (.list (g.map leafD)) = some (.list ((g ++ [(s, ws)]).map leafD)) := hap
    simp only [gnEnv]
    generalize gNames.map PyData.str = nm at e3 ⊢
    generalize (g ++ [(s, ws)]).map leafD = gl at hap' ⊢
    simp [gnBody, RV.passes, e, big, e2', bindT, lstAt, upR, e3, hap']
  · rw [List.map_append, hg.1, List.length_append]
    exact e4.symm
  · intro p hp
    rcases List.mem_append.mp hp with hp | hp
    · exact hg.2 p hp
    · rw [List.mem_singleton.mp hp]; exact hw
/-- a loop whose turns are counted -/
theorem forB_idx {C : CallF} {t : Tg} {body : Ss} : ∀ (xs : List PyData) (I : Nat → MEnv → MH → Prop) (env : MEnv) (mh : MH), I 0 env mh →
    (∀ i x, xs[i]? = some x → ∀ env mh, I i env mh → ∃ env', bindT t x env = some env' ∧ ∃ env2 mh2, evSs C body env' mh = .next env2 mh2 ∧ I (i + 1) env2 mh2) →
    ∃ env' mh', forB C t body xs env mh = .next env' mh' ∧ I xs.length env' mh'
  | [], I, env, mh, hI, _ => ⟨env, mh, rfl, hI⟩
  | x :: xs, I, env, mh, hI, h => by
    obtain ⟨env', hb, env2, mh2, e, hI2⟩ := h 0 x rfl env mh hI
    obtain ⟨env3, mh3, e3, hI3⟩ := forB_idx (C := C) (t := t) (body := body) xs (fun i => I (i + 1)) env2 mh2 hI2 fun i y hy => h (i + 1) y (by simpa using hy)
    refine ⟨env3, mh3, ?_, hI3⟩
    show (match bindT t x env with
      | some env' => (evSs C body env' mh).turn (forL t (fun env mh => evSs C body env mh) xs)
      | none => .stuck) = _
    rw [hb]
    show (evSs C body env' mh).turn _ = _
    rw [e]
    exact e3
theorem rngD_at (n i : Nat) (x : PyData) (h : (rngD 0 n)[i]? = some x) : i < n ∧ x = .int i := by
  rw [rngD_map, List.getElem?_map] at h
  by_cases hi : i < n
  · rw [List.getElem?_range hi] at h
    refine ⟨hi, ?_⟩
    have := Option.some.inj h
    rw [← this]; simp
  · rw [List.getElem?_eq_none (by rw [List.length_range]; omega)] at h
    cases h
theorem rngD_len (lo : Int) (n : Nat) : (rngD lo n).length = n := by rw [rngD_map, List.length_map, List.length_range]
theorem gn_loop (h : P 103 = some Fn.x_law_next) (k n : Nat) (hn : n ≤ 5) (m : Int) (a b : Option RV) (is : List Int) :
    ∃ g a' b' js, forB (CF P sub (k + 1)) (.nm 4) gnBody (rngD 0 n) (gnEnv m [] a b) [.lst (iL is)] = .next (gnEnv m g a' b') [.lst (iL js)] ∧ goodG g ∧ g.length = n := by
  obtain ⟨env', mh', e, g, a', b', js, rfl, rfl, hg, hl⟩ := forB_idx (C := CF P sub (k + 1)) (t := .nm 4) (body := gnBody) (rngD 0 n) (fun i env mh => ∃ g a b js, env = gnEnv m g a b ∧ mh = [.lst (iL js)] ∧ goodG g ∧ g.length = i) (gnEnv m [] a b) [.lst (iL is)] ⟨[], a, b, is, rfl, rfl, ⟨rfl, fun p hp => by cases hp⟩, rfl⟩ (by
    rintro i x hx env mh ⟨g, a, b, js, rfl, rfl, hg, rfl⟩
    obtain ⟨hi, rfl⟩ := rngD_at n _ x hx
    obtain ⟨g', b', js', e, hg', hl'⟩ := gnBody_ev (sub := sub) h k m g hg (by omega) b js
    exact ⟨gnEnv m g (some (.dat (.int g.length))) b, rfl, _, _, e, g', _, b', js', rfl, rfl, hg', hl'⟩)
  rw [rngD_len] at hl
  exact ⟨g, a', b', js, e, hg, hl⟩
theorem c_ground (h0 : P 50 = some Fn.x_law_ground) (h : P 103 = some Fn.x_law_next) (k : Nat) (m : Int) (hm : 2 ≤ m ∧ m ≤ 5) (is : List Int) :
    ∃ g js, (CF P sub (k + 2)).call 50 [.ref 0, .dat (.int m)] [.lst (iL is)] = .ok (.dat (gD g)) [.lst (iL js)] ∧ goodG g ∧ 1 ≤ g.length ∧ (g.length : Int) ≤ m := by
  obtain ⟨j1, js1, e1, h1, h1'⟩ := c_nx (sub := sub) h k 9 is (by decide)
  obtain ⟨j2, js2, e2, h2, h2'⟩ := c_nx (sub := sub) h k (m - 1) js1 (by omega)
  have hb : ∃ b : Int, (b = 0 ∨ b = 1) ∧ intD (.bool (decide (0 < j1))) = some (.int b) := by
    cases decide (0 < j1) with
    | false => exact ⟨0, .inl rfl, rfl⟩
    | true => exact ⟨1, .inr rfl, rfl⟩
  obtain ⟨b, hb, e3⟩ := hb
  obtain ⟨n, hn⟩ := Int.eq_ofNat_of_zero_le (show 0 ≤ 1 + b + j2 by omega)
  have g1 : cmpD .Gt (.int j1) (.int 0) = some (decide (0 < j1)) := cmp_gt_int _ _
  obtain ⟨g, a', b', js, e4, hg, hl⟩ := gn_loop (sub := sub) h k n (by omega) m none none js2
  have hs : binD .Sub (.int m) (.int 1) = some (.int (m - 1)) := rfl
  have hi : ∀ env mh, evItF (CF P sub (k + 1)) (.rng1 (.bin .Add (.bin .Add (.cst (.int 1)) (.blt .int (.cons (.cmp .Gt (.call 103 (.cons (.var 0) (.cons (.cst (.int 9)) .nil))) (.cst (.int 0))) .nil))) (.call 103 (.cons (.var 0) (.cons (.bin .Sub (.var 1) (.cst (.int 1))) .nil))))) env mh = evIt (CF P sub (k + 1)) (.rng1 (.bin .Add (.bin .Add (.cst (.int 1)) (.blt .int (.cons (.cmp .Gt (.call 103 (.cons (.var 0) (.cons (.cst (.int 9)) .nil))) (.cst (.int 0))) .nil))) (.call 103 (.cons (.var 0) (.cons (.bin .Sub (.var 1) (.cst (.int 1))) .nil))))) env mh := fun _ _ => rfl
  refine ⟨g, js, ?_, hg, by omega, by omega⟩
  rw [cf_succ h0]
  unfold gnBody gnEnv gNames at e4
  simp only [List.map_cons, List.map_nil] at e4
  have hn1 : (-16777216 : Int) ≤ n := by omega
  have hn2 : (n : Int) ≤ 16777216 := by omega
  simp [runF, Fn.x_law_ground, RV.passes, freshV, isFresh, big, setN, bindT, hi, evIt, e1, g1, bltD, un, e3, hs, e2, bAdd, hn, hn1, hn2, e4, tupD, gD]
end Mn
end
section
set_option linter.all false
set_option autoImplicit false
set_option maxRecDepth 100000
namespace Mn
open PySem
variable {P : Nat → Option FDef} {sub : Nat → Nat → Option Bool}
theorem ev_comp_gen {C : CallF} {elt c : E} {tg : Tg} {it : It} {own : List Nat} {env : MEnv} {mh mh1 mh2 : MH} {xs ds : List PyData} (hi : evIt C it env mh = .ok xs mh1) (hb : big xs.length = true) (h : compL (cmpTurn C elt tg c own env) xs mh1 [] = .ok ds mh2) :
    (evP C (.comp elt tg it c own)).1 env mh = .ok (.dat (.list ds)) mh2 := by
  show ((evIt C it env mh).bind fun xs mh => if big xs.length then noExc ((compL (cmpTurn C elt tg c own env) xs mh []).bind fun ds mh => .ok (RV.dat (.list ds)) mh) else .stuck) = _
  rw [hi]
  show (if big xs.length then noExc ((compL (cmpTurn C elt tg c own env) xs mh1 []).bind fun ds mh => .ok (RV.dat (.list ds)) mh) else .stuck) = _
  rw [if_pos hb, h]
  rfl
/-- a state of a ground -/
def stF : Gr → List Str → Prop
  | [], [] => True
  | p :: g, s :: ss => s ∈ p.2 ∧ stF g ss
  | _, _ => False
/-- a comprehension whose turns draw -/
theorem compL_draw {turn : PyData → MH → Out (Option PyData)} : ∀ (g : Gr), (∀ p ∈ g, ∀ is, ∃ s js, turn (leafD p) [.lst (iL is)] = .ok (some (.str s)) [.lst (iL js)] ∧ s ∈ p.2) → ∀ (is : List Int) (acc : List PyData),
    ∃ (ss : List Str) (js : List Int), compL turn (g.map leafD) [.lst (iL is)] acc = .ok (acc ++ ss.map .str) [.lst (iL js)] ∧ stF g ss
  | [], _, is, acc => ⟨[], is, by simp [compL], trivial⟩
  | x :: xs, ht, is, acc => by
    obtain ⟨s, js, e, hr⟩ := ht x List.mem_cons_self is
    obtain ⟨ss, js2, e2, hr2⟩ := compL_draw (turn := turn) xs (fun p hp => ht p (List.mem_cons_of_mem _ hp)) js (acc ++ [.str s])
    refine ⟨s :: ss, js2, ?_, hr, hr2⟩
    rw [List.map_cons]
    unfold compL
    rw [e]
    show compL turn (xs.map leafD) [.lst (iL js)] (acc ++ [.str s]) = _
    rw [e2]
    simp
theorem tS_at (ws : List Str) (j : Int) (h : 0 ≤ j ∧ j < ws.length) : ∃ s ∈ ws, idxD (tS ws) (.int j) = some (.str s) := by
  obtain ⟨n, rfl⟩ := Int.eq_ofNat_of_zero_le h.1
  have hn : n < ws.length := by omega
  refine ⟨ws[n], List.getElem_mem _, ?_⟩
  show atD (ws.map .str) (n : Int) = _
  rw [atD_nat, List.getElem?_map, List.getElem?_eq_getElem hn]; rfl
theorem lenD_tS (ws : List Str) : lenD (tS ws) = some (.int ws.length) := by simp [tS, lenD]
theorem goodG_ne {g : Gr} (hg : goodG g) : ∀ p ∈ g, 0 < p.2.length := fun p hp => by
  have : ∀ ws ∈ gWorths, 0 < ws.length := by decide
  exact this _ (hg.2 p hp)
theorem c_state (h0 : P 143 = some Fn.x_law_state) (h : P 103 = some Fn.x_law_next) (k : Nat) (g : Gr) (hg : ∀ p ∈ g, 0 < p.2.length) (hb : big g.length = true) (is : List Int) :
    ∃ ss js, (CF P sub (k + 2)).call 143 [.ref 0, .dat (gD g)] [.lst (iL is)] = .ok (.dat (tS ss)) [.lst (iL js)] ∧ stF g ss := by
  obtain ⟨ss, js, e, hst⟩ := compL_draw (turn := cmpTurn (CF P sub (k + 1)) (.idx (.idx (.var 2) (.cst (.int 1))) (.call 103 (.cons (.var 0) (.cons (.blt .len (.cons (.idx (.var 2) (.cst (.int 1))) .nil)) .nil)))) (.nm 2) (.cst (.bool true)) [2] [some (.ref 0), some (.dat (gD g)), none]) g (by
    intro p hp is
    obtain ⟨j, js, e, h1, h2⟩ := c_nx (sub := sub) h k (p.2.length : Int) is (by have := hg p hp; omega)
    obtain ⟨s, hs, e2⟩ := tS_at p.2 j ⟨h1, h2⟩
    have h3 : idxD (leafD p) (.int 1) = some (tS p.2) := rfl
    refine ⟨s, js, ?_, hs⟩
    simp [cmpTurn, bindT, wipeM, h3, bltD, un, lenD_tS, RV.passes, e, e2]) is []
  refine ⟨ss, js, ?_, hst⟩
  rw [cf_succ h0]
  have hcm : (evP (CF P sub (k + 1)) (.comp (.idx (.idx (.var 2) (.cst (.int 1))) (.call 103 (.cons (.var 0) (.cons (.blt .len (.cons (.idx (.var 2) (.cst (.int 1))) .nil)) .nil)))) (.nm 2) (.of (.var 1)) (.cst (.bool true)) [2])).1 [some (.ref 0), some (.dat (gD g)), none] [.lst (iL is)] = .ok (.dat (.list (ss.map .str))) [.lst (iL js)] := by
    have hi : evIt (CF P sub (k + 1)) (.of (.var 1)) [some (.ref 0), some (.dat (gD g)), none] [.lst (iL is)] = .ok (g.map leafD) [.lst (iL is)] := rfl
    exact ev_comp_gen hi (by rw [List.length_map]; exact hb) e
  simp [runF, Fn.x_law_state, RV.passes, hcm, bltD, un, tupD, tS]
end Mn
end
section
set_option linter.all false
set_option autoImplicit false
set_option maxRecDepth 100000
namespace Mn
open PySem
variable {P : Nat → Option FDef} {sub : Nat → Nat → Option Bool}
def pD (e : Str × Str) : PyData := .tuple [.str e.1, .str e.2]
/-- an edit of a ground's first leaves -/
def edF (g g0 : Gr) (es : List (Str × Str)) : Prop := (es.map (·.1)).Sublist (g0.map (·.1)) ∧ ∀ e ∈ es, ∃ p ∈ g, e.1 = p.1 ∧ e.2 ∈ p.2
def edBody : Ss := (.cons (.if_ (.and_ (.cmp .Lt (.blt .len (.cons (.var 3) .nil)) (.var 2)) (.cmp .Eq (.call 103 (.cons (.var 0) (.cons (.cst (.int 2)) .nil))) (.cst (.int 1)))) (.cons (.app 3 (.tup (.cons (.idx (.var 4) (.cst (.int 0))) (.cons (.idx (.idx (.var 4) (.cst (.int 1))) (.call 103 (.cons (.var 0) (.cons (.blt .len (.cons (.idx (.var 4) (.cst (.int 1))) .nil)) .nil)))) .nil)))) .nil) .nil) .nil)
def edEnv (g : Gr) (m : Int) (es : List (Str × Str)) (a : Option RV) : MEnv := [some (.ref 0), some (.dat (gD g)), some (.dat (.int m)), some (.olst (es.map pD)), a]
theorem edBody_ev (h : P 103 = some Fn.x_law_next) (k : Nat) (g : Gr) (m : Int) (es : List (Str × Str)) (p : Str × List Str) (hp : 0 < p.2.length) (he : es.length < 1000) (is : List Int) :
    ∃ es' js, evSs (CF P sub (k + 1)) edBody (edEnv g m es (some (.dat (leafD p)))) [.lst (iL is)] = .next (edEnv g m es' (some (.dat (leafD p)))) [.lst (iL js)] ∧ (es' = es ∨ ∃ s ∈ p.2, es' = es ++ [(p.1, s)]) := by
  have g1 : cmpD .Lt (.int (es.length : Int)) (.int m) = some (decide ((es.length : Int) < m)) := cmp_lt_int _ _
  have hlen : lenD (.list (es.map pD)) = some (.int (es.length : Int)) := by simp [lenD]
  have h3 : idxD (leafD p) (.int 1) = some (tS p.2) := rfl
  have h4 : idxD (leafD p) (.int 0) = some (.str p.1) := rfl
  cases e1 : decide ((es.length : Int) < m) with
  | false =>
    refine ⟨es, is, ?_, .inl rfl⟩
    simp [edBody, edEnv, bltD, un, hlen, g1, e1, -decide_eq_true_eq, -decide_eq_false_iff_not]
  | true =>
    obtain ⟨j, js, e, h1, h2⟩ := c_nx (sub := sub) h k 2 is (by decide)
    have g2 : cmpD .Eq (.int j) (.int 1) = some (decide (j = 1)) := cmp_eq_int _ _
    cases e2 : decide (j = 1) with
    | false =>
      refine ⟨es, js, ?_, .inl rfl⟩
      simp [edBody, edEnv, bltD, un, hlen, g1, e1, RV.passes, e, g2, e2, -decide_eq_true_eq, -decide_eq_false_iff_not]
    | true =>
      obtain ⟨j2, js2, e3, h5, h6⟩ := c_nx (sub := sub) h k (p.2.length : Int) js (by omega)
      obtain ⟨s, hs, e4⟩ := tS_at p.2 j2 ⟨h5, h6⟩
      have hap : appD (.tuple [.str p.1, .str s]) (.list (es.map pD)) = some (.list ((es ++ [(p.1, s)]).map pD)) := by
        have hbg : big ((es.map pD).length + 1) = true := decide_eq_true (by rw [List.length_map]; omega)
        show (if big ((es.map pD).length + 1) then some (PyData.list (es.map pD ++ [pD (p.1, s)])) else none) = _
        rw [hbg]
        simp
      refine ⟨es ++ [(p.1, s)], js2, ?_, .inr ⟨s, hs, rfl⟩⟩
      simp only [edEnv]
      generalize (es ++ [(p.1, s)]).map pD = nl at hap ⊢
      simp [edBody, bltD, un, hlen, g1, e1, RV.passes, e, g2, e2, h3, h4, lenD_tS, e3, e4, big, lstAt, upR, hap, -decide_eq_true_eq, -decide_eq_false_iff_not]
theorem c_edit (h0 : P 33 = some Fn.x_law_edit) (h : P 103 = some Fn.x_law_next) (k : Nat) (g : Gr) (m : Int) (hg : ∀ p ∈ g, 0 < p.2.length) (hb : g.length < 1000) (is : List Int) :
    ∃ es js, (CF P sub (k + 2)).call 33 [.ref 0, .dat (gD g), .dat (.int m)] [.lst (iL is)] = .ok (.dat (.tuple (es.map pD))) [.lst (iL js)] ∧ edF g g es := by
  obtain ⟨env', mh', e, es, a, js, rfl, rfl, he, _⟩ := forB_idx (C := CF P sub (k + 1)) (t := .nm 4) (body := edBody) (g.map leafD) (fun i env mh => ∃ es a js, env = edEnv g m es a ∧ mh = [.lst (iL js)] ∧ edF g (g.take i) es ∧ es.length ≤ i) (edEnv g m [] none) [.lst (iL is)] ⟨[], none, is, rfl, rfl, ⟨.slnil, fun e he => by cases he⟩, Nat.le_refl _⟩ (by
    rintro i x hx env mh ⟨es, a, js, rfl, rfl, hf, hl⟩
    rw [List.getElem?_map] at hx
    cases hgi : g[i]? with
    | none => rw [hgi] at hx; cases hx
    | some p =>
      rw [hgi] at hx
      have hx := Option.some.inj hx
      subst hx
      have hi : i < g.length := by
        rcases Nat.lt_or_ge i g.length with h | h
        · exact h
        · rw [List.getElem?_eq_none h] at hgi; cases hgi
      have hp : p ∈ g := List.mem_of_getElem? hgi
      obtain ⟨es', js', e, hor⟩ := edBody_ev (sub := sub) h k g m es p (hg p hp) (by omega) js
      have ht : g.take (i + 1) = g.take i ++ [p] := by rw [List.take_succ, hgi]; rfl
      refine ⟨edEnv g m es (some (.dat (leafD p))), rfl, _, _, e, es', _, js', rfl, rfl, ?_, ?_⟩
      · rw [ht]
        rcases hor with rfl | ⟨s, hs, rfl⟩
        · refine ⟨?_, hf.2⟩
          rw [List.map_append]
          exact hf.1.trans (List.sublist_append_left _ _)
        · refine ⟨?_, fun e he => ?_⟩
          · rw [List.map_append, List.map_append]
            exact List.Sublist.append hf.1 (List.Sublist.refl _)
          · rcases List.mem_append.mp he with he | he
            · exact hf.2 e he
            · rw [List.mem_singleton.mp he]; exact ⟨p, hp, rfl, hs⟩
      · rcases hor with rfl | ⟨s, hs, rfl⟩
        · omega
        · rw [List.length_append]; simp; exact hl)
  rw [List.length_map, List.take_length] at he
  refine ⟨es, js, ?_, he⟩
  rw [cf_succ h0]
  have hi : ∀ mh, evItF (CF P sub (k + 1)) (.of (.var 1)) [some (.ref 0), some (.dat (gD g)), some (.dat (.int m)), some (.olst []), none] mh = .ok (g.map leafD) mh := fun _ => rfl
  unfold edBody edEnv at e
  simp only [List.map_nil] at e
  simp [runF, Fn.x_law_edit, RV.passes, freshV, isFresh, big, setN, hi, e, bltD, un, tupD]
end Mn
end
section
set_option linter.all false
set_option autoImplicit false
set_option maxRecDepth 100000
namespace Mn
open PySem
/-! ### what is drawn is right -/
theorem leaf_ok (s : Str) (hs : s ∈ gNames) (ws : List Str) (hw : ws ∈ gWorths) : leafOk (leafD (s, ws)) = true ∧ okD (leafD (s, ws)) = true := by
  have h : ∀ s ∈ gNames, ∀ ws ∈ gWorths, leafOk (leafD (s, ws)) = true ∧ okD (leafD (s, ws)) = true := by decide
  exact h s hs ws hw
theorem goodG_name {g : Gr} (hg : goodG g) : ∀ p ∈ g, p.1 ∈ gNames := fun p hp => by
  have : p.1 ∈ g.map (·.1) := List.mem_map_of_mem hp
  rw [hg.1] at this
  exact List.mem_of_mem_take this
theorem okA_all : ∀ {xs : List PyData}, (∀ x ∈ xs, okD x = true) → okD.okA xs = true
  | [], _ => rfl
  | x :: xs, h => by
    show (okD x && okD.okA xs) = true
    rw [h x List.mem_cons_self, okA_all fun y hy => h y (List.mem_cons_of_mem _ hy)]
    rfl
theorem goodG_ok {g : Gr} (hg : goodG g) (hl : g.length ≤ 5) : okD (gD g) = true := by
  show (big (g.map leafD).length && okD.okA (g.map leafD)) = true
  rw [okA_all fun x hx => by
    obtain ⟨p, hp, rfl⟩ := List.mem_map.mp hx
    exact (leaf_ok p.1 (goodG_name hg p hp) p.2 (hg.2 p hp)).2]
  rw [Bool.and_true]
  exact decide_eq_true (by rw [List.length_map]; omega)
theorem rise_take (n : Nat) : rise (gNames.take n) = true := by
  match n with
  | 0 => decide
  | 1 => decide
  | 2 => decide
  | 3 => decide
  | 4 => decide
  | n + 5 => 
    have : gNames.take (n + 5) = gNames := by
      apply List.take_of_length_le
      show 5 ≤ n + 5
      omega
    rw [this]; decide
theorem goodG_ground {g : Gr} (hg : goodG g) (h1 : 1 ≤ g.length) (hl : g.length ≤ 5) : isGround (gD g) = true := by
  have e1 : (g.map leafD).all leafOk = true := by
    rw [List.all_eq_true]; intro x hx
    obtain ⟨p, hp, rfl⟩ := List.mem_map.mp hx
    exact (leaf_ok p.1 (goodG_name hg p hp) p.2 (hg.2 p hp)).1
  have e2 : rise (namesOf (g.map leafD)) = true := by rw [names_gD, hg.1]; exact rise_take _
  have e3 : decide ((1 : Int) ≤ ((g.map leafD).length : Int)) = true := decide_eq_true (by rw [List.length_map]; omega)
  have e4 : decide (((g.map leafD).length : Int) ≤ 40) = true := decide_eq_true (by rw [List.length_map]; omega)
  show (decide ((1 : Int) ≤ ((g.map leafD).length : Int)) && (decide (((g.map leafD).length : Int) ≤ 40) && ((g.map leafD).all leafOk && rise (namesOf (g.map leafD))))) = true
  rw [e1, e2, e3, e4]; rfl
theorem stF_row : ∀ {g : Gr} {ss : List Str}, stF g ss → ss.length = g.length ∧ (stateRow (ss.map .str) g).all id = true
  | [], [], _ => ⟨rfl, rfl⟩
  | p :: g, s :: ss, h => by
    obtain ⟨h1, h2⟩ := stF_row h.2
    refine ⟨by simp [h1], ?_⟩
    show ((decide (s ∈ p.2)) && (stateRow (ss.map .str) g).all id) = true
    rw [h2, decide_eq_true h.1]; rfl
theorem stF_state {g : Gr} {ss : List Str} (h : stF g ss) : isStateOf g (tS ss) = true := by
  obtain ⟨h1, h2⟩ := stF_row h
  show (decide (((ss.map PyData.str).length : Int) = (g.length : Int)) && (stateRow (ss.map .str) g).all id) = true
  rw [h2, Bool.and_true]
  exact decide_eq_true (by rw [List.length_map, h1])
theorem rise_of_sub : ∀ {as bs : List Str}, as.Sublist bs → rise bs = true → rise as = true
  | _, _, .slnil, h => h
  | as, _, .cons b hs, h => rise_of_sub hs (rise_tail h)
  | _, _, .cons_cons b (l₁ := []) hs, h => rfl
  | _, _, .cons_cons b (l₁ := a :: as) hs, h => by
    have h1 := rise_of_sub hs (rise_tail h)
    have h2 := rise_lt _ b h a (hs.subset List.mem_cons_self)
    show (decide (b.cps.toList < a.cps.toList) && rise (a :: as)) = true
    rw [h1, decide_eq_true h2]; rfl
theorem look_mem : ∀ {g : Gr} {p : Str × List Str}, (g.map (·.1)).Nodup → p ∈ g → look g p.1 = some p.2
  | q :: g, p, hn, hp => by
    rw [List.map_cons, List.nodup_cons] at hn
    show (if q.1 = p.1 then some q.2 else look g p.1) = _
    rcases List.mem_cons.mp hp with rfl | hp
    · rw [if_pos rfl]
    · rw [if_neg fun e => hn.1 (by rw [e]; exact List.mem_map_of_mem hp), look_mem hn.2 hp]
theorem names_pD : ∀ es : List (Str × Str), namesOf (es.map pD) = es.map (·.1)
  | [] => rfl
  | e :: es => by
    show e.1 :: namesOf (es.map pD) = _
    rw [names_pD es]; rfl
theorem edF_edit {g : Gr} {es : List (Str × Str)} (h : edF g g es) (hg : isGround (gD g) = true) : isEditOf g (.tuple (es.map pD)) = true := by
  have hn := ground_nodup hg
  have h' : (decide ((1 : Int) ≤ ((g.map leafD).length : Int)) && (decide (((g.map leafD).length : Int) ≤ 40) && ((g.map leafD).all leafOk && rise (namesOf (g.map leafD))))) = true := hg
  simp only [Bool.and_eq_true] at h'
  have e1 : (es.map pD).all (editLeaf g) = true := by
    rw [List.all_eq_true]; intro x hx
    obtain ⟨e, he, rfl⟩ := List.mem_map.mp hx
    obtain ⟨p, hp, h1, h2⟩ := h.2 e he
    show (match look g e.1 with
      | some ws => isWord (.str e.2) ws
      | none => false) = true
    rw [h1, look_mem hn hp]
    exact decide_eq_true h2
  have e2 : rise (namesOf (es.map pD)) = true := by
    rw [names_pD]
    refine rise_of_sub h.1 ?_
    rw [← names_gD]; exact h'.2.2.2
  show ((es.map pD).all (editLeaf g) && rise (namesOf (es.map pD))) = true
  rw [e1, e2]; rfl
end Mn
end
section
set_option linter.all false
set_option autoImplicit false
set_option maxRecDepth 100000
namespace Mn
open PySem
variable {P : Nat → Option FDef} {sub : Nat → Nat → Option Bool}
theorem stF_okD : ∀ {g : Gr} {ss : List Str}, goodG g → stF g ss → ∀ s ∈ ss, big s.length = true := by
  intro g ss hg
  have hw : ∀ ws ∈ gWorths, ∀ s ∈ ws, big s.length = true := by decide
  have h : ∀ (g : Gr) (ss : List Str), (∀ p ∈ g, p.2 ∈ gWorths) → stF g ss → ∀ s ∈ ss, big s.length = true := by
    intro g
    induction g with
    | nil => intro ss _ h; cases ss with
      | nil => intro s hs; cases hs
      | cons a b => exact h.elim
    | cons p g ih =>
      intro ss hp h
      cases ss with
      | nil => exact h.elim
      | cons a b =>
        intro s hs
        rcases List.mem_cons.mp hs with rfl | hs
        · exact hw _ (hp p List.mem_cons_self) _ h.1
        · exact ih b (fun q hq => hp q (List.mem_cons_of_mem _ hq)) h.2 s hs
  exact h g ss hg.2
theorem okD_tS {ss : List Str} (h : ∀ s ∈ ss, big s.length = true) (hl : big ss.length = true) : okD (tS ss) = true := by
  show (big (ss.map PyData.str).length && okD.okA (ss.map .str)) = true
  rw [List.length_map, hl, okA_all fun x hx => by
    obtain ⟨s, hs, rfl⟩ := List.mem_map.mp hx
    exact h s hs]
  rfl
/-! ### the wide ground -/
def sN (i : Nat) : Str := toString (100 + (i : Int))
def wideP (i : Nat) : Str × List Str := ("n" ++ sN i, ["0", "1"])
theorem sN_ok : ∀ i : Nat, i < 100 → big (("n" : Str).length + (sN i).length) = true ∧ decide ((100 + (i : Int)).natAbs.log2 < 1920) = true := by decide +kernel
def wideG (n : Nat) : Gr := (List.range n).map wideP
theorem c_wide (h : P 165 = some Fn.x_law_wide) (k n : Nat) (hn : n ≤ 100) (mh : MH) : (CF P sub (k + 1)).call 165 [.dat (.int n)] mh = .ok (.dat (gD (wideG n))) mh := by
  rw [cf_succ h]
  have hcm : (evP (CF P sub k) (.comp (.tup (.cons (.bin .Add (.cst (.str "n")) (.blt .str (.cons (.bin .Add (.cst (.int 100)) (.var 1)) .nil))) (.cons (.tup (.cons (.cst (.str "0")) (.cons (.cst (.str "1")) .nil))) .nil))) (.nm 1) (.rng1 (.var 0)) (.cst (.bool true)) [1])).1 [some (.dat (.int n)), none] mh = .ok (.dat (.list ((wideG n).map leafD))) mh := by
    have h2 := ev_map (C := CF P sub k) (elt := .tup (.cons (.bin .Add (.cst (.str "n")) (.blt .str (.cons (.bin .Add (.cst (.int 100)) (.var 1)) .nil))) (.cons (.tup (.cons (.cst (.str "0")) (.cons (.cst (.str "1")) .nil))) .nil))) (tg := .nm 1) (it := .rng1 (.var 0)) (c := .cst (.bool true)) (own := [1]) (env := [some (.dat (.int n)), none]) (mh := mh) (mh1 := mh) (xs := rngD 0 n) (f := fun d => match d with | .int i => leafD (wideP i.toNat) | _ => .none)
      (by
        have h1 : (-16777216 : Int) ≤ n := by omega
        have h2 : (n : Int) ≤ 16777216 := by omega
        simp [evIt, h1, h2])
      (by rw [rngD_len]; exact decide_eq_true (by omega)) (fun x hx => by
        rw [rngD_map] at hx
        obtain ⟨i, hi, rfl⟩ := List.mem_map.mp hx
        have hi := List.mem_range.mp hi
        have e0 : (0 + (i : Int)) = i := by omega
        have e1 : binD .Add (.int 100) (.int (i : Int)) = some (.int (100 + (i : Int))) := rfl
        obtain ⟨b1, b2⟩ := sN_ok i (by omega)
        have e2 : strD (.int (100 + (i : Int))) = some (.str (sN i)) := by
          show (if decide ((100 + (i : Int)).natAbs.log2 < 1920) then some (PyData.str (sN i)) else none) = _
          rw [b2]; rfl
        have e3 : binD .Add (.str "n") (.str (sN i)) = some (.str (wideP i).1) := by
          show (if big (("n" : Str).length + (sN i).length) then some (PyData.str ("n" ++ sN i)) else none) = _
          rw [b1]; rfl
        rw [e0]
        simp [cmpTurn, bindT, wipeM, e1, bltD, un, e2, e3, big]
        rfl)
    rw [h2, rngD_map, List.map_map]
    congr 2
    unfold wideG
    rw [List.map_map]
    congr 1
    apply List.map_congr_left
    intro i _
    show leafD (wideP (0 + (i : Int)).toNat) = leafD (wideP i)
    congr 2
    omega
  simp [runF, Fn.x_law_wide, RV.passes, hcm, bltD, un, tupD, gD]
end Mn
end
section
set_option linter.all false
set_option autoImplicit false
set_option maxRecDepth 100000
namespace Mn
open PySem
variable {P : Nat → Option FDef} {sub : Nat → Nat → Option Bool}
def sI (i : Nat) : Str := toString (i : Int)
def digits (n : Nat) : PyData := .tuple ((List.range n).map fun i => .str (sI i))
def wrongsG (p : Str × List Str) (g : Gr) : List PyData :=
  let a : PyData := .str p.1
  let b : PyData := tS p.2
  let o : PyData := tS ["0"]
  [.none, .tuple [], .str "a", .list ((p :: g).map leafD), .tuple ((p :: g).map leafD ++ (p :: g).map leafD), .tuple [a, b], .tuple [.tuple [a]], .tuple [.tuple [a, b, .int 0]],
   .tuple [.tuple [a, .list (p.2.map .str)]], .tuple [.tuple [a, .tuple []]], .tuple [.tuple [.str "1a", o]], .tuple [.tuple [.str "", o]], .tuple [.tuple [.str "A", o]],
   .tuple [.tuple [.str "abcdefghi", o]], .tuple [.tuple [.int 7, o]], .tuple [.tuple [.str "a", tS ["0", "0"]]], .tuple [.tuple [.str "a", tS ["1", "0"]]], .tuple [.tuple [.str "a", tS [""]]],
   .tuple [.tuple [.str "a", tS ["x_"]]], .tuple [.tuple [.str "a", .tuple [.int 0]]], .tuple [.tuple [.str "b", o], .tuple [.str "a", o]], .tuple [.tuple [.str "a", .str "0"]], .tuple [.list [a, b]],
   .tuple [.tuple [.str "a", digits 9]], .tuple [.tuple [.str "a", tS ["abcdefghi"]]], gD (wideG 41), .dict [(.str "a", o)], .int 3, .bool true]
theorem itC_dig (C : CallF) (n v : Nat) (env : MEnv) (hv : v < env.length) (hn : n ≤ 20) (mh : MH) : (evP C (.comp (.blt .str (.cons (.var v) .nil)) (.nm v) (.rng1 (.cst (.int n))) (.cst (.bool true)) [v])).1 env mh = .ok (.dat (.list ((List.range n).map fun i => .str (sI i)))) mh := by
  have h2 := ev_map (C := C) (elt := .blt .str (.cons (.var v) .nil)) (tg := .nm v) (it := .rng1 (.cst (.int n))) (c := .cst (.bool true)) (own := [v]) (env := env) (mh := mh) (mh1 := mh) (xs := rngD 0 n) (f := fun d => match d with | .int i => .str (sI i.toNat) | _ => .none)
    (by
      have h1 : (-16777216 : Int) ≤ n := by omega
      have h2 : (n : Int) ≤ 16777216 := by omega
      simp [evIt, h1, h2])
    (by rw [rngD_len]; exact decide_eq_true (by omega)) (fun x hx => by
      rw [rngD_map] at hx
      obtain ⟨i, hi, rfl⟩ := List.mem_map.mp hx
      have hi := List.mem_range.mp hi
      have e0 : (0 + (i : Int)) = i := by omega
      have hs : ∀ i : Nat, i < 20 → decide ((i : Int).natAbs.log2 < 1920) = true := by decide +kernel
      have e2 : strD (.int (i : Int)) = some (.str (sI i)) := by
        show (if decide ((i : Int).natAbs.log2 < 1920) then some (PyData.str (sI i)) else none) = _
        rw [hs i (by omega)]; rfl
      rw [e0]
      simp [cmpTurn, bindT, wipeM, hv, bltD, un, e2])
  rw [h2, rngD_map, List.map_map]
  congr 3
  apply List.map_congr_left
  intro i _
  show PyData.str (sI (0 + (i : Int)).toNat) = _
  congr 2
  first | omega | skip
theorem bAddL (xs ys : List PyData) (h : big (xs.length + ys.length) = true) : binD .Add (.list xs) (.list ys) = some (.list (xs ++ ys)) := by simp [binD, h]
theorem bAddT (xs ys : List PyData) (h : big (xs.length + ys.length) = true) : binD .Add (.tuple xs) (.tuple ys) = some (.tuple (xs ++ ys)) := by simp [binD, h]
theorem c_wrong_grounds (h : P 171 = some Fn.x_law_wrong_grounds) (hw : P 165 = some Fn.x_law_wide) (k : Nat) (p : Str × List Str) (g : Gr) (hl : g.length ≤ 4) (mh : MH) : (CF P sub (k + 2)).call 171 [.dat (gD (p :: g))] mh = .ok (.dat (.list (wrongsG p g))) mh := by
  rw [cf_succ h]
  have i0 : idxD (gD (p :: g)) (.int 0) = some (leafD p) := by
    show atD ((p :: g).map leafD) ((0 : Nat) : Int) = _
    rw [atD_nat]; rfl
  have i1 : idxD (leafD p) (.int 0) = some (.str p.1) := rfl
  have i2 : idxD (leafD p) (.int 1) = some (tS p.2) := rfl
  have l1 : lstD (gD (p :: g)) = some (.list ((p :: g).map leafD)) := rfl
  have l2 : lstD (tS p.2) = some (.list (p.2.map .str)) := rfl
  have a1 : binD .Add (gD (p :: g)) (gD (p :: g)) = some (.tuple ((p :: g).map leafD ++ (p :: g).map leafD)) := bAddT _ _ (decide_eq_true (by simp; omega))
  have cw : ∀ mh, (CF P sub (k + 1)).call 165 [.dat (.int 41)] mh = .ok (.dat (gD (wideG 41))) mh := fun mh => c_wide (sub := sub) hw k 41 (by omega) mh
  have dg := fun env (hv : 3 < env.length) mh => itC_dig (CF P sub (k + 1)) 9 3 env hv (by omega) mh
  have d1 : ∀ a b, dspD [.str a, b] = some (.dict [(.str a, b)]) := fun a b => rfl
  unfold wrongsG
  dsimp only
  generalize (p :: g).map leafD = gl at l1 a1 ⊢
  generalize gD (p :: g) = gg at i0 l1 a1 ⊢
  generalize leafD p = lf at i0 i1 i2 ⊢
  generalize p.2.map PyData.str = bl at l2 ⊢
  generalize tS p.2 = b at i2 l2 ⊢
  generalize PyData.str p.1 = a at i1 ⊢
  simp only [show ((9 : Nat) : Int) = (9 : Int) from rfl] at dg
  generalize gD (wideG 41) = wd at cw ⊢
  simp [runF, Fn.x_law_wrong_grounds, RV.passes, RV.isDat, bindT, i0, i1, i2, l1, l2, a1, bltD, un, big, d1, cw, dg, tupD, digits, tS, bAddL, frzR]
/-- a row that is no ground, of any rows behind -/
theorem notG_tup {xs : List PyData} (h : (xs.all leafOk && rise (namesOf xs)) = false) : isGround (.tuple xs) = false := by
  show (decide ((1 : Int) ≤ (xs.length : Int)) && (decide ((xs.length : Int) ≤ 40) && (xs.all leafOk && rise (namesOf xs)))) = false
  rw [h]; simp
theorem rise_dup (a : Str) (as bs : List Str) : rise (a :: as ++ a :: bs) = false := by
  cases e : rise (a :: as ++ a :: bs) with
  | false => rfl
  | true =>
    have := rise_lt (as ++ a :: bs) a e a (List.mem_append_right _ List.mem_cons_self)
    exact absurd this (List.lt_irrefl _)
theorem names_app (xs ys : List PyData) : namesOf (xs ++ ys) = namesOf xs ++ namesOf ys := by
  simp [namesOf, strsOf]
theorem wrongs_no (p : Str × List Str) (g : Gr) (h1 : p.1 = "a") (h2 : p.2 ∈ gWorths) (hg : goodG (p :: g)) (hl : g.length ≤ 4) : ∀ w ∈ wrongsG p g, okD w = true ∧ isGround w = false := by
  obtain ⟨s, ws⟩ := p
  have h1 : s = "a" := h1
  subst h1
  have hok := goodG_ok hg (by simp; omega)
  have hok' : okD.okA (((("a" : Str), ws) :: g).map leafD) = true := by
    have h : (big (((("a" : Str), ws) :: g).map leafD).length && okD.okA (((("a" : Str), ws) :: g).map leafD)) = true := hok
    rw [Bool.and_eq_true] at h
    exact h.2
  have hbig : ∀ n, n ≤ 10 → big n = true := fun n hn => decide_eq_true (by omega)
  have c1 : okD (.list (((("a" : Str), ws) :: g).map leafD)) = true ∧ isGround (.list (((("a" : Str), ws) :: g).map leafD)) = false := by
    refine ⟨?_, rfl⟩
    show (big _ && okD.okA _) = true
    rw [hok', hbig _ (by simp; omega)]; rfl
  have c2 : okD (.tuple (((("a" : Str), ws) :: g).map leafD ++ ((("a" : Str), ws) :: g).map leafD)) = true ∧ isGround (.tuple (((("a" : Str), ws) :: g).map leafD ++ ((("a" : Str), ws) :: g).map leafD)) = false := by
    refine ⟨?_, notG_tup ?_⟩
    · show (big _ && okD.okA _) = true
      rw [hbig _ (by simp; omega), okA_all fun x hx => by
        rcases List.mem_append.mp hx with hx | hx <;> exact okA_mem hok' hx]
      rfl
    · rw [names_app, names_gD]
      have hd : rise ((((("a" : Str), ws) :: g).map (·.1)) ++ (((("a" : Str), ws) :: g).map (·.1))) = false := by rw [List.map_cons]; exact rise_dup _ _ _
      rw [hd, Bool.and_false]
  have hrest : ∀ ws ∈ gWorths, ∀ w ∈ [PyData.none, .tuple [], .str "a", .tuple [.str "a", tS ws], .tuple [.tuple [.str "a"]], .tuple [.tuple [.str "a", tS ws, .int 0]],
   .tuple [.tuple [.str "a", .list (ws.map .str)]], .tuple [.tuple [.str "a", .tuple []]], .tuple [.tuple [.str "1a", tS ["0"]]], .tuple [.tuple [.str "", tS ["0"]]], .tuple [.tuple [.str "A", tS ["0"]]],
   .tuple [.tuple [.str "abcdefghi", tS ["0"]]], .tuple [.tuple [.int 7, tS ["0"]]], .tuple [.tuple [.str "a", tS ["0", "0"]]], .tuple [.tuple [.str "a", tS ["1", "0"]]], .tuple [.tuple [.str "a", tS [""]]],
   .tuple [.tuple [.str "a", tS ["x_"]]], .tuple [.tuple [.str "a", .tuple [.int 0]]], .tuple [.tuple [.str "b", tS ["0"]], .tuple [.str "a", tS ["0"]]], .tuple [.tuple [.str "a", .str "0"]], .tuple [.list [.str "a", tS ws]],
   .tuple [.tuple [.str "a", digits 9]], .tuple [.tuple [.str "a", tS ["abcdefghi"]]], gD (wideG 41), .dict [(.str "a", tS ["0"])], .int 3, .bool true], okD w = true ∧ isGround w = false := by decide +kernel
  intro w hw
  have hr := hrest ws h2 w
  unfold wrongsG at hw
  simp only [List.mem_cons, List.not_mem_nil, or_false] at hw hr
  rcases hw with h | h | h | h | h | h
  · exact hr (by simp [h])
  · exact hr (by simp [h])
  · exact hr (by simp [h])
  · rw [h]; exact c1
  · rw [h]; exact c2
  · exact hr (.inr (.inr (.inr h)))
end Mn
end
section
set_option linter.all false
set_option autoImplicit false
set_option maxRecDepth 100000
namespace Mn
open PySem
variable {P : Nat → Option FDef} {sub : Nat → Nat → Option Bool}
theorem evS_try {C : CallF} (body : Ss) (c : Nat) (i : Option Nat) (suite : Ss) (env : MEnv) (mh : MH) : evS C (.try_ body c i suite) env mh = (match evSs C body env mh with
    | .exc x env' mh' => (match C.sub x.c c with
      | some true => (match i with
        | some k => if k < env'.length then (evSs C suite (env'.set k (some (.xcp x.c x.arg))) mh').unX k else .stuck
        | none => (match evSs C suite env' mh' with
          | .exc _ _ _ => .stuck
          | o => o))
      | some false => .exc x env' mh'
      | none => .stuck)
    | o => o) := (rfl)
theorem forB_nil {C : CallF} (t : Tg) (body : Ss) (env : MEnv) (mh : MH) : forB C t body [] env mh = .next env mh := (rfl)
theorem forB_cons {C : CallF} (t : Tg) (body : Ss) (x : PyData) (xs : List PyData) (env : MEnv) (mh : MH) : forB C t body (x :: xs) env mh = (match bindT t x env with
    | some env' => SO.turn (forB C t body xs) (evSs C body env' mh)
    | none => .stuck) := (rfl)
@[simp] theorem turn_next (k : MEnv → MH → SO) (env : MEnv) (mh : MH) : SO.turn k (.next env mh) = k env mh := rfl
@[simp] theorem turn_ret (k : MEnv → MH → SO) (r : RV) (mh : MH) : SO.turn k (.ret r mh) = .ret r mh := rfl
@[simp] theorem unX_next (k : Nat) (e : MEnv) (m : MH) : SO.unX k (.next e m) = if noX (e.set k none) then .next (e.set k none) m else .stuck := rfl
theorem eqD_str (i j : Str) : eqD (.str i) (.str j) = some (decide (i = j)) := by
  unfold eqD
  rw [depOk_str, depOk_str]
  show some (PyData.eqv (.str i) (.str j)) = _
  rw [eqv_str]
theorem c_no_ground (hP : HasAsk P) (h : P 68 = some Fn.x_law_is_no_ground) (s1 : sub 15 5 = some true) (s2 : sub 15 15 = some true) (s3 : sub 15 38 = some true) (k : Nat) (w : PyData) (hw : okD w = true) (hg : isGround w = false) (mh : MH) :
    (CF P sub (k + 6)).call 68 [.dat w] mh = .ok (.dat (.bool true)) mh := by
  have c1 := fun mh => c_is_state_no (sub := sub) hP k w .none mh hw hg
  have c2 := fun mh => c_is_edit_no (sub := sub) hP k w .none mh hw hg
  rw [cf_succ h]
  have g1 : cmpD .Eq (.str "state") (.str "state") = some true := by
    show eqD _ _ = _
    rw [eqD_str]; rfl
  have g2 : cmpD .Eq (.str "edit") (.str "state") = some false := by
    show eqD _ _ = _
    rw [eqD_str]; rfl
  have g3 : cmpD .Eq (.list [.bool true, .bool true]) (.list [.bool true, .bool true]) = some true := by
    show eqD _ _ = _
    unfold eqD
    simp [depOk, PyData.plain, PyData.depth, PyData.plainAll, PyData.depthAll]
    decide +kernel
  have s1' : (CF P sub (k + 5)).sub 15 5 = some true := s1
  have s2' : (CF P sub (k + 5)).sub 15 15 = some true := s2
  have s3' : (CF P sub (k + 5)).sub 15 38 = some true := s3
  have hi : ∀ env mh, evItF (CF P sub (k + 5)) (.of (.lst (.cons (.cst (.str "state")) (.cons (.cst (.str "edit")) .nil)))) env mh = .ok [.str "state", .str "edit"] mh := fun _ _ => rfl
  simp [runF, Fn.x_law_is_no_ground, RV.passes, RV.isDat, freshV, isFresh, big, setN, hi, forB_cons, forB_nil, bindT, evS_try, g1, g2, c1, c2, s1', s2', s3', lstAt, upR, appD, noX, RV.noX, g3]
end Mn
end
section
set_option linter.all false
set_option autoImplicit false
set_option maxRecDepth 100000
namespace Mn
open PySem
variable {P : Nat → Option FDef} {sub : Nat → Nat → Option Bool}
theorem cut_tail {α : Type} (x : α) (xs : List α) : cutD (x :: xs) (some 1) none = xs := by
  have h : HT.sIx (x :: xs).length 0 (some 1) = 1 := by
    rw [show (1 : Int) = ((1 : Nat) : Int) from rfl, HT.sIx_nat]; simp
  unfold cutD
  rw [h, HT.sIx_none]
  simp
theorem cut_one {α : Type} (x : α) (xs : List α) : cutD (x :: xs) none (some 1) = [x] := by
  have h : HT.sIx (x :: xs).length (x :: xs).length (some 1) = 1 := by
    rw [show (1 : Int) = ((1 : Nat) : Int) from rfl, HT.sIx_nat]; simp
  unfold cutD
  rw [h, HT.sIx_none]
  simp
theorem cut_but {α : Type} (x : α) (xs : List α) : cutD (x :: xs) none (some (xs.length : Int)) = (x :: xs).take xs.length := by
  have h : HT.sIx (x :: xs).length (x :: xs).length (some (xs.length : Int)) = xs.length := by
    rw [HT.sIx_nat]; simp
  unfold cutD
  rw [h, HT.sIx_none]
  simp
def wrongsS (p : Str × List Str) (s : Str) (ss : List Str) (J : Str) : List PyData :=
  let tl : List PyData := ss.map .str
  [.none, .tuple [], .list (.str s :: tl), .tuple (.str s :: tl ++ [.str s]), .tuple ((.str s :: tl).take tl.length), .tuple (.str "?" :: tl), .tuple (.none :: tl),
   .str J, .tuple [.tuple (.str s :: tl)], .tuple (.int 0 :: tl), .dict [(.str "a", .int 0)], .tuple (.tuple [.str p.1, .str s] :: tl)]
theorem c_wrong_states (h : P 173 = some Fn.x_law_wrong_states) (k : Nat) (p : Str × List Str) (g : Gr) (s : Str) (ss : List Str) (J : Str) (hj : joinD "" (.str s :: ss.map .str) = some (.str J)) (hl : ss.length ≤ 10) (mh : MH) :
    (CF P sub (k + 1)).call 173 [.dat (gD (p :: g)), .dat (tS (s :: ss))] mh = .ok (.dat (.list (wrongsS p s ss J))) mh := by
  rw [cf_succ h]
  have i0 : idxD (gD (p :: g)) (.int 0) = some (leafD p) := by
    show atD ((p :: g).map leafD) ((0 : Nat) : Int) = _
    rw [atD_nat]; rfl
  have i1 : idxD (leafD p) (.int 0) = some (.str p.1) := rfl
  have i2 : idxD (.tuple (.str s :: ss.map .str)) (.int 0) = some (.str s) := by
    show atD (.str s :: ss.map .str) ((0 : Nat) : Int) = _
    rw [atD_nat]; rfl
  have hlen : lenD (.tuple (.str s :: ss.map .str)) = some (.int (((ss.map PyData.str).length : Int) + 1)) := rfl
  have hsb : binD .Sub (.int (((ss.map PyData.str).length : Int) + 1)) (.int 1) = some (.int (ss.map PyData.str).length) := by
    show some (PyData.int (((ss.map PyData.str).length : Int) + 1 - 1)) = _
    congr 2
    omega
  have hl' : (ss.map PyData.str).length ≤ 10 := by rw [List.length_map]; exact hl
  unfold wrongsS
  dsimp only
  rw [show tS (s :: ss) = .tuple (.str s :: ss.map .str) from rfl]
  generalize ss.map PyData.str = tl at hj i2 hlen hsb hl' ⊢
  have c1 := cut_tail (PyData.str s) tl
  have c2 := cut_one (PyData.str s) tl
  have c3 := cut_but (PyData.str s) tl
  have s1 : sliD (.tuple (.str s :: tl)) (some 1) none = some (.tuple tl) := by show some (PyData.tuple (cutD _ _ _)) = _; rw [c1]
  have s2 : sliD (.tuple (.str s :: tl)) none (some 1) = some (.tuple [.str s]) := by show some (PyData.tuple (cutD _ _ _)) = _; rw [c2]
  have s3 : sliD (.tuple (.str s :: tl)) none (some (tl.length : Int)) = some (.tuple ((.str s :: tl).take tl.length)) := by show some (PyData.tuple (cutD _ _ _)) = _; rw [c3]
  have a1 : ∀ x, binD .Add (.tuple [x]) (.tuple tl) = some (.tuple (x :: tl)) := fun x => bAddT [x] tl (decide_eq_true (by simp; omega))
  have a2 : binD .Add (.tuple (.str s :: tl)) (.tuple [.str s]) = some (.tuple (.str s :: tl ++ [.str s])) := bAddT _ _ (decide_eq_true (by simp; omega))
  have m1 : mthD .join (.str "") [.tuple (.str s :: tl)] = some (.str J) := hj
  have m2 : mthTy .join (some (.str "")) = true := rfl
  have d1 : dspD [.str "a", .int 0] = some (.dict [(.str "a", .int 0)]) := rfl
  have l1 : lstD (.tuple (.str s :: tl)) = some (.list (.str s :: tl)) := rfl
  generalize (PyData.str s :: tl).take tl.length = tk at s3 ⊢
  generalize hst : PyData.tuple (.str s :: tl) = st at *
  simp [runF, Fn.x_law_wrong_states, RV.passes, partO, bindT, big, i0, i1, i2, hlen, hsb, s1, s2, s3, a1, a2, m1, m2, d1, l1, bltD, un, bAddL]
end Mn
end
section
set_option linter.all false
set_option autoImplicit false
set_option maxRecDepth 100000
namespace Mn
open PySem
theorem okD_tup {xs : List PyData} (hl : xs.length ≤ 1000) (h : ∀ x ∈ xs, okD x = true) : okD (.tuple xs) = true := by
  show (big xs.length && okD.okA xs) = true
  rw [okA_all h, Bool.and_true]
  exact decide_eq_true (by omega)
theorem notS_len (g : Gr) (xs : List PyData) (h : xs.length ≠ g.length) : isStateOf g (.tuple xs) = false := by
  show (decide ((xs.length : Int) = (g.length : Int)) && (stateRow xs g).all id) = false
  rw [decide_eq_false (by omega)]; rfl
theorem notS_fst (p : Str × List Str) (g : Gr) (x : PyData) (xs : List PyData) (h : isWord x p.2 = false) : isStateOf (p :: g) (.tuple (x :: xs)) = false := by
  show (decide (((x :: xs).length : Int) = ((p :: g).length : Int)) && (isWord x p.2 && (stateRow xs g).all id)) = false
  rw [h]; simp
theorem wrongsS_no (p : Str × List Str) (g : Gr) (s : Str) (ss : List Str) (J : Str) (hg : goodG (p :: g)) (hl : g.length ≤ 4) (hs : stF (p :: g) (s :: ss)) : ∀ w ∈ wrongsS p s ss J, okT w = true ∧ isStateOf (p :: g) w = false := by
  obtain ⟨hlen, _⟩ := stF_row hs
  have hlen : ss.length = g.length := by simpa using hlen
  have hb := stF_okD hg hs
  have hss : ∀ x ∈ ss.map PyData.str, okD x = true := fun x hx => by
    obtain ⟨y, hy, rfl⟩ := List.mem_map.mp hx
    exact hb y (List.mem_cons_of_mem _ hy)
  have hsb : okD (.str s) = true := hb s List.mem_cons_self
  have hst : ∀ x ∈ PyData.str s :: ss.map PyData.str, okD x = true := fun x hx => by
    rcases List.mem_cons.mp hx with rfl | hx
    · exact hsb
    · exact hss x hx
  have hn : okD (.str p.1) = true := by
    have h : ∀ s ∈ gNames, okD (.str s) = true := by decide
    exact h _ (goodG_name hg p List.mem_cons_self)
  have hq : isWord (.str "?") p.2 = false := by
    have h : ∀ ws ∈ gWorths, isWord (.str "?") ws = false := by decide
    exact h _ (hg.2 p List.mem_cons_self)
  have hL : (ss.map PyData.str).length = g.length := by rw [List.length_map, hlen]
  have hcons : ∀ x, okD x = true → okT (.tuple (x :: ss.map .str)) = true := fun x hx => by
    refine okD_tup (by simp; omega) fun y hy => ?_
    rcases List.mem_cons.mp hy with rfl | hy
    · exact hx
    · exact hss y hy
  intro w hw
  unfold wrongsS at hw
  simp only [List.mem_cons, List.not_mem_nil, or_false] at hw
  rcases hw with rfl | rfl | rfl | rfl | rfl | rfl | rfl | rfl | rfl | rfl | rfl | rfl
  · exact ⟨rfl, rfl⟩
  · exact ⟨rfl, notS_len _ _ (by simp)⟩
  · exact ⟨rfl, rfl⟩
  · refine ⟨okD_tup (by simp; omega) fun y hy => ?_, notS_len _ _ (by simp; omega)⟩
    rcases List.mem_append.mp hy with hy | hy
    · exact hst y hy
    · rw [List.mem_singleton.mp hy]; exact hsb
  · exact ⟨okD_tup (by simp; omega) fun y hy => hst y (List.mem_of_mem_take hy), notS_len _ _ (by simp; omega)⟩
  · exact ⟨hcons _ rfl, notS_fst _ _ _ _ hq⟩
  · exact ⟨hcons _ rfl, notS_fst _ _ _ _ rfl⟩
  · exact ⟨rfl, rfl⟩
  · have h1 : okD (.tuple [.tuple (PyData.str s :: ss.map PyData.str)]) = true := okD_tup (by simp) fun y hy => by rw [List.mem_singleton.mp hy]; exact okD_tup (by simp; omega) hst
    exact ⟨h1, notS_fst _ _ _ _ rfl⟩
  · exact ⟨hcons _ rfl, notS_fst _ _ _ _ rfl⟩
  · exact ⟨rfl, rfl⟩
  · exact ⟨hcons _ (okD_tup (by simp) fun y hy => by
      rcases List.mem_cons.mp hy with rfl | hy
      · exact hn
      · rw [List.mem_singleton.mp hy]; exact hsb), notS_fst _ _ _ _ rfl⟩
end Mn
end
section
set_option linter.all false
set_option autoImplicit false
set_option maxRecDepth 100000
namespace Mn
open PySem
variable {P : Nat → Option FDef} {sub : Nat → Nat → Option Bool}
def wrongsE0 (n s : Str) : List PyData :=
  let a : PyData := .str n
  let b : PyData := .str s
  let pr : PyData := .tuple [a, b]
  [.none, pr, .list [pr], .tuple [pr, pr], .tuple [.tuple [a]], .tuple [.tuple [a, b, .int 0]], .tuple [.tuple [.str "zz", b]], .tuple [.tuple [a, .str "?"]],
   .tuple [.tuple [a, .none]], .tuple [.tuple [.int 0, b]], .tuple [.list [a, b]], .tuple [.tuple [a, .tuple [b]]], .str "ab", .int 0, .tuple [.tuple [.none, .none]]]
def wrongsE1 (n s : Str) : Gr → List Str → List PyData
  | q :: _, t :: _ => [.tuple [.tuple [.str q.1, .str t], .tuple [.str n, .str s]]]
  | _, _ => []
theorem c_wrong_edits (h : P 170 = some Fn.x_law_wrong_edits) (k : Nat) (p : Str × List Str) (g : Gr) (s : Str) (ss : List Str) (hl : ss.length = g.length) (mh : MH) :
    (CF P sub (k + 1)).call 170 [.dat (gD (p :: g)), .dat (tS (s :: ss))] mh = .ok (.dat (.list (wrongsE0 p.1 s ++ wrongsE1 p.1 s g ss))) mh := by
  rw [cf_succ h]
  have i0 : idxD (gD (p :: g)) (.int 0) = some (leafD p) := by
    show atD ((p :: g).map leafD) ((0 : Nat) : Int) = _
    rw [atD_nat]; rfl
  have i1 : idxD (leafD p) (.int 0) = some (.str p.1) := rfl
  have i2 : idxD (tS (s :: ss)) (.int 0) = some (.str s) := by
    show atD (.str s :: ss.map .str) ((0 : Nat) : Int) = _
    rw [atD_nat]; rfl
  have pi0 : ∀ a b : PyData, idxD (.tuple [a, b]) (.int 0) = some a := fun a b => rfl
  have pi1 : ∀ a b : PyData, idxD (.tuple [a, b]) (.int 1) = some b := fun a b => rfl
  have l1 : ∀ a b : PyData, lstD (.tuple [a, b]) = some (.list [a, b]) := fun a b => rfl
  cases g with
  | nil =>
    cases ss with
    | cons t ss => simp at hl
    | nil =>
      have hg : lenD (gD [p]) = some (.int 1) := rfl
      have hc : cmpD .Gt (.int 1) (.int 1) = some false := rfl
      generalize gD [p] = gg at i0 hg ⊢
      generalize tS [s] = st at i2 ⊢
      simp [runF, Fn.x_law_wrong_edits, RV.passes, bindT, freshV, isFresh, setN, frzR, i0, i1, i2, pi0, pi1, l1, bltD, un, big, bAddL, hg, hc, wrongsE0, wrongsE1]
  | cons q g =>
    cases ss with
    | nil => simp at hl
    | cons t ss =>
      have hg : lenD (gD (p :: q :: g)) = some (.int ((g.length : Int) + 2)) := by
        show some (PyData.int (((p :: q :: g).map leafD).length : Int)) = _
        congr 2
        simp
        omega
      have hc : cmpD .Gt (.int ((g.length : Int) + 2)) (.int 1) = some true := by
        have := cmp_gt_int ((g.length : Int) + 2) 1
        rw [this, decide_eq_true (by omega)]
      have j0 : idxD (gD (p :: q :: g)) (.int 1) = some (leafD q) := by
        show atD ((p :: q :: g).map leafD) ((1 : Nat) : Int) = _
        rw [atD_nat]; rfl
      have j1 : idxD (leafD q) (.int 0) = some (.str q.1) := rfl
      have j2 : idxD (tS (s :: t :: ss)) (.int 1) = some (.str t) := by
        show atD (.str s :: .str t :: ss.map .str) ((1 : Nat) : Int) = _
        rw [atD_nat]; rfl
      generalize gD (p :: q :: g) = gg at i0 hg j0 ⊢
      generalize tS (s :: t :: ss) = st at i2 j2 ⊢
      simp [runF, Fn.x_law_wrong_edits, RV.passes, bindT, freshV, isFresh, setN, frzR, i0, i1, i2, pi0, pi1, l1, bltD, un, big, bAddL, hg, hc, j0, j1, j2, appD, lstAt, upR, wrongsE0, wrongsE1]
theorem look_none : ∀ {g : Gr} {s : Str}, (∀ p ∈ g, p.1 ≠ s) → look g s = none
  | [], _, _ => rfl
  | p :: g, s, h => by
    show (if p.1 = s then some p.2 else look g s) = none
    rw [if_neg (h p List.mem_cons_self), look_none fun q hq => h q (List.mem_cons_of_mem _ hq)]
theorem notE_one {g : Gr} {x : PyData} (h : editLeaf g x = false) (xs : List PyData) : isEditOf g (.tuple (x :: xs)) = false := by
  show ((editLeaf g x && xs.all (editLeaf g)) && _) = false
  rw [h]; rfl
theorem notE_rise {g : Gr} {xs : List PyData} (h : rise (namesOf xs) = false) : isEditOf g (.tuple xs) = false := by
  show (xs.all (editLeaf g) && rise (namesOf xs)) = false
  rw [h, Bool.and_false]
theorem wrongsE_no (p : Str × List Str) (g : Gr) (s : Str) (ss : List Str) (hg : goodG (p :: g)) (hs : stF (p :: g) (s :: ss)) : ∀ w ∈ wrongsE0 p.1 s ++ wrongsE1 p.1 s g ss, okT w = true ∧ isEditOf (p :: g) w = false := by
  have hb := stF_okD hg hs
  have hsb : big s.length = true := hb s List.mem_cons_self
  have hnb : ∀ q ∈ p :: g, big q.1.length = true := fun q hq => by
    have h : ∀ s ∈ gNames, big s.length = true := by decide
    exact h _ (goodG_name hg q hq)
  have hn := hnb p List.mem_cons_self
  have hzz : look (p :: g) "zz" = none := look_none fun q hq => by
    have h : ∀ s ∈ gNames, s ≠ "zz" := by decide
    exact h _ (goodG_name hg q hq)
  have hq : isWord (.str "?") p.2 = false := by
    have h : ∀ ws ∈ gWorths, isWord (.str "?") ws = false := by decide
    exact h _ (hg.2 p List.mem_cons_self)
  have hlk : look (p :: g) p.1 = some p.2 := by
    show (if p.1 = p.1 then some p.2 else look g p.1) = _
    rw [if_pos rfl]
  intro w hw
  rcases List.mem_append.mp hw with hw | hw
  · unfold wrongsE0 at hw
    simp only [List.mem_cons, List.not_mem_nil, or_false] at hw
    have b1 : ∀ n, n ≤ 10 → big n = true := fun n hn => decide_eq_true (by omega)
    rcases hw with rfl | rfl | rfl | rfl | rfl | rfl | rfl | rfl | rfl | rfl | rfl | rfl | rfl | rfl | rfl
    · exact ⟨rfl, rfl⟩
    · exact ⟨by simp [okT, okD, okD.okA, hn, hsb, b1], notE_one rfl _⟩
    · exact ⟨rfl, rfl⟩
    · refine ⟨by simp [okT, okD, okD.okA, hn, hsb, b1], notE_rise (rise_dup p.1 [] [])⟩
    · exact ⟨by simp [okT, okD, okD.okA, hn, hsb, b1], notE_one rfl _⟩
    · exact ⟨by simp [okT, okD, okD.okA, hn, hsb, b1], notE_one rfl _⟩
    · refine ⟨by simp [okT, okD, okD.okA, hn, hsb, b1]; decide, notE_one ?_ _⟩
      show (match look (p :: g) "zz" with | some ws => isWord (.str s) ws | none => false) = false
      rw [hzz]
    · refine ⟨by simp [okT, okD, okD.okA, hn, hsb, b1]; decide, notE_one ?_ _⟩
      show (match look (p :: g) p.1 with | some ws => isWord (.str "?") ws | none => false) = false
      rw [hlk]; exact hq
    · refine ⟨by simp [okT, okD, okD.okA, hn, hsb, b1], notE_one ?_ _⟩
      show (match look (p :: g) p.1 with | some ws => isWord .none ws | none => false) = false
      rw [hlk]; rfl
    · exact ⟨by simp [okT, okD, okD.okA, hn, hsb, b1], notE_one rfl _⟩
    · exact ⟨by simp [okT, okD, okD.okA, hn, hsb, b1], notE_one rfl _⟩
    · refine ⟨by simp [okT, okD, okD.okA, hn, hsb, b1], notE_one ?_ _⟩
      show (match look (p :: g) p.1 with | some ws => isWord (.tuple [.str s]) ws | none => false) = false
      rw [hlk]; rfl
    · exact ⟨rfl, rfl⟩
    · exact ⟨rfl, rfl⟩
    · exact ⟨by simp [okT, okD, okD.okA, hn, hsb, b1], notE_one rfl _⟩
  · cases g with
    | nil => cases hw
    | cons q g =>
      cases ss with
      | nil => cases hw
      | cons t ss =>
        have hw := List.mem_singleton.mp hw
        subst hw
        have b1 : ∀ n, n ≤ 10 → big n = true := fun n hn => decide_eq_true (by omega)
        have htb : big t.length = true := hb t (List.mem_cons_of_mem _ List.mem_cons_self)
        have hqb : big q.1.length = true := hnb q (List.mem_cons_of_mem _ List.mem_cons_self)
        refine ⟨by simp [okT, okD, okD.okA, hn, hsb, htb, hqb, b1], notE_rise ?_⟩
        have hr : rise ((p :: q :: g).map (·.1)) = true := by rw [hg.1]; exact rise_take _
        have hlt : p.1.cps.toList < q.1.cps.toList := rise_lt _ _ hr q.1 (by simp)
        show (decide (q.1.cps.toList < p.1.cps.toList) && _) = false
        rw [decide_eq_false fun h => List.lt_irrefl _ (List.lt_trans hlt h)]; rfl
theorem strsD_map : ∀ ss : List Str, strsD (ss.map .str) = some ss
  | [] => rfl
  | s :: ss => by
    show (strsD (ss.map .str)).map (fun l => s :: l) = _
    rw [strsD_map ss]; rfl
theorem stF_short : ∀ {g : Gr} {ss : List Str}, (∀ p ∈ g, p.2 ∈ gWorths) → stF g ss → (ss.map Str.length).sum ≤ 8 * ss.length
  | [], [], _, _ => Nat.le_refl _
  | p :: g, s :: ss, hg, hs => by
    have ih := stF_short (fun q hq => hg q (List.mem_cons_of_mem _ hq)) hs.2
    have h : ∀ ws ∈ gWorths, ∀ s ∈ ws, s.length ≤ 8 := by decide
    have h1 := h _ (hg p List.mem_cons_self) s hs.1
    simp only [List.map_cons, List.sum_cons, List.length_cons]
    omega
/-- the texts of a state, joined -/
theorem join_ex {g : Gr} {ss : List Str} (hg : goodG g) (hs : stF g ss) (hl : ss.length ≤ 5) : ∃ J, joinD "" (ss.map .str) = some (.str J) := by
  have h := stF_short hg.2 hs
  refine ⟨Str.join "" ss, ?_⟩
  unfold joinD
  rw [strsD_map]
  have hb : big ((ss.map Str.length).sum + ss.length * ("" : Str).length) = true := by
    refine decide_eq_true ?_
    have : ("" : Str).length = 0 := rfl
    rw [this]; omega
  show (if big ((ss.map Str.length).sum + ss.length * ("" : Str).length) then some (PyData.str (Str.join "" ss)) else none) = _
  rw [hb]; rfl
end Mn
end
section
set_option linter.all false
set_option autoImplicit false
set_option maxRecDepth 100000
namespace Mn
open PySem
variable {P : Nat → Option FDef} {sub : Nat → Nat → Option Bool}
theorem step {C : CallF} {s : S} {r : Ss} {env env' : MEnv} {mh mh' : MH} {o : SO} (h : evS C s env mh = .next env' mh') (h2 : evSs C r env' mh' = o) : evSs C (.cons s r) env mh = o := by
  rw [evSs_cons, h]; exact h2
structure RightG (g : Gr) : Prop where
  ok : okD (gD g) = true
  gr : isGround (gD g) = true
def headW (p : Str × List Str) : Str := p.2.headD ""
def heads (g : Gr) : List Str := g.map headW
def pairs1 (g : Gr) : List (Str × Str) := g.map fun p => (p.1, headW p)
theorem ground_len {g : Gr} (h : isGround (gD g) = true) : 1 ≤ g.length ∧ g.length ≤ 40 := by
  have h' : (decide ((1 : Int) ≤ ((g.map leafD).length : Int)) && (decide (((g.map leafD).length : Int) ≤ 40) && ((g.map leafD).all leafOk && rise (namesOf (g.map leafD))))) = true := h
  simp only [Bool.and_eq_true] at h'
  have h1 := of_decide_eq_true h'.1
  have h2 := of_decide_eq_true h'.2.1
  rw [List.length_map] at h1 h2
  omega
theorem ground_words {g : Gr} (h : isGround (gD g) = true) : ∀ p ∈ g, ∃ s r, p.2 = s :: r := fun p hp => by
  have h' : (decide ((1 : Int) ≤ ((g.map leafD).length : Int)) && (decide (((g.map leafD).length : Int) ≤ 40) && ((g.map leafD).all leafOk && rise (namesOf (g.map leafD))))) = true := h
  simp only [Bool.and_eq_true] at h'
  have h2 := List.all_eq_true.mp h'.2.2.1 (leafD p) (List.mem_map_of_mem hp)
  have h3 : (isName (.str p.1) && (decide ((1 : Int) ≤ ((p.2.map PyData.str).length : Int)) && (decide (((p.2.map PyData.str).length : Int) ≤ 8) && ((p.2.map PyData.str).all isWorth && rise (strsOf (p.2.map .str)))))) = true := h2
  simp only [Bool.and_eq_true] at h3
  have h4 := of_decide_eq_true h3.2.1
  rw [List.length_map] at h4
  cases e : p.2 with
  | nil => rw [e] at h4; simp at h4
  | cons s r => exact ⟨s, r, rfl⟩
theorem heads_st : ∀ {g : Gr}, (∀ p ∈ g, ∃ s r, p.2 = s :: r) → stF g (heads g)
  | [], _ => trivial
  | p :: g, h => by
    refine ⟨?_, heads_st fun q hq => h q (List.mem_cons_of_mem _ hq)⟩
    obtain ⟨s, r, e⟩ := h p List.mem_cons_self
    show p.2.headD "" ∈ p.2
    rw [e]; exact List.mem_cons_self
theorem pairs_ed {g : Gr} (h : ∀ p ∈ g, ∃ s r, p.2 = s :: r) : edF g g (pairs1 g) := by
  refine ⟨?_, fun e he => ?_⟩
  · have : (pairs1 g).map (·.1) = g.map (·.1) := by
      unfold pairs1
      rw [List.map_map]; rfl
    rw [this]; exact List.Sublist.refl _
  · obtain ⟨p, hp, rfl⟩ := List.mem_map.mp he
    obtain ⟨s, r, e⟩ := h p hp
    refine ⟨p, hp, rfl, ?_⟩
    show p.2.headD "" ∈ p.2
    rw [e]; exact List.mem_cons_self
theorem leaf_okD {g : Gr} (h : okD (gD g) = true) {p : Str × List Str} (hp : p ∈ g) : big p.1.length = true ∧ ∀ s ∈ p.2, big s.length = true := by
  have h' : (big (g.map leafD).length && okD.okA (g.map leafD)) = true := h
  rw [Bool.and_eq_true] at h'
  have h2 : okD (leafD p) = true := okA_mem h'.2 (List.mem_map_of_mem hp)
  have h3 : (big 2 && (big p.1.length && ((big (p.2.map PyData.str).length && okD.okA (p.2.map .str)) && true))) = true := h2
  simp only [Bool.and_eq_true] at h3
  exact ⟨h3.2.1, fun s hs => okA_mem h3.2.2.1.2 (List.mem_map_of_mem (f := PyData.str) hs)⟩
theorem heads_ok {g : Gr} (h : RightG g) : okT (.tuple ((heads g).map .str)) = true := by
  have hl := ground_len h.gr
  refine okD_tup (by simp [heads]; omega) fun x hx => ?_
  obtain ⟨s, hs, rfl⟩ := List.mem_map.mp hx
  obtain ⟨p, hp, rfl⟩ := List.mem_map.mp hs
  obtain ⟨s, r, e⟩ := ground_words h.gr p hp
  refine (leaf_okD h.ok hp).2 (headW p) ?_
  show p.2.headD "" ∈ p.2
  rw [e]; exact List.mem_cons_self
theorem pairs_ok {g : Gr} (h : RightG g) : okT (.tuple ((pairs1 g).map pD)) = true := by
  have hl := ground_len h.gr
  refine okD_tup (by simp [pairs1]; omega) fun x hx => ?_
  obtain ⟨e, he, rfl⟩ := List.mem_map.mp hx
  obtain ⟨p, hp, rfl⟩ := List.mem_map.mp he
  obtain ⟨s, r, e⟩ := ground_words h.gr p hp
  have h2 : big (headW p).length = true := (leaf_okD h.ok hp).2 (headW p) (by
    show p.2.headD "" ∈ p.2
    rw [e]; exact List.mem_cons_self)
  show (big 2 && (big p.1.length && (big (headW p).length && true))) = true
  rw [(leaf_okD h.ok hp).1, h2]; rfl
theorem isD_bool (a b : Bool) : cmpD .Is (.bool a) (.bool b) = some (decide (a = b)) := rfl
theorem isN_bool (a b : Bool) : cmpD .IsNot (.bool a) (.bool b) = some (!decide (a = b)) := rfl
def lEnv (sc : PyData) (g : Gr) (st rs : PyData) (a b c : Option RV) : MEnv := [some (.dat sc), some (.ref 0), some (.dat (gD g)), some (.dat st), some (.dat rs), a, b, none, c]
def rBody : Ss := (.cons (.if_ (.or_ (.cmp .IsNot (.pcall 259 (.cons (.var 6) .nil)) (.cst (.bool true))) (.cmp .IsNot (.pcall 284 (.cons (.var 6) (.cons (.blt .tup (.cons (.comp (.idx (.idx (.var 7) (.cst (.int 1))) (.cst (.int 0))) (.nm 7) (.of (.var 6)) (.cst (.bool true)) [7]) .nil)) .nil))) (.cst (.bool true)))) (.cons (.ret (.cst (.bool false))) .nil) .nil) (.cons (.if_ (.or_ (.cmp .IsNot (.pcall 251 (.cons (.var 6) (.cons (.tup .nil) .nil))) (.cst (.bool true))) (.cmp .IsNot (.pcall 251 (.cons (.var 6) (.cons (.blt .tup (.cons (.comp (.tup (.cons (.idx (.var 7) (.cst (.int 0))) (.cons (.idx (.idx (.var 7) (.cst (.int 1))) (.cst (.int 0))) .nil))) (.nm 7) (.of (.var 6)) (.cst (.bool true)) [7]) .nil)) .nil))) (.cst (.bool true)))) (.cons (.ret (.cst (.bool false))) .nil) .nil) .nil))
theorem rBody_ev (hP : HasAsk P) (k : Nat) (g : Gr) (h : RightG g) (sc : PyData) (g0 : Gr) (st rs : PyData) (a c : Option RV) (mh : MH) :
    evSs (CF P sub (k + 5)) rBody (lEnv sc g0 st rs a (some (.dat (gD g))) c) mh = .next (lEnv sc g0 st rs a (some (.dat (gD g))) c) mh := by
  have hne := ground_words h.gr
  have hl := ground_len h.gr
  have c1 : ∀ mh, (CF P sub (k + 5)).call 259 [.dat (gD g)] mh = .ok (.dat (.bool (isGround (gD g)))) mh := fun mh => c_is_ground (sub := sub) hP.toHasGround (k + 2) (gD g) mh h.ok
  have c2 := fun mh => c_is_state (sub := sub) hP k g (.tuple ((heads g).map .str)) mh (heads_ok h) h.ok h.gr
  have c3 := fun mh => c_is_edit (sub := sub) hP k g (.tuple []) mh rfl h.ok h.gr
  have c4 := fun mh => c_is_edit (sub := sub) hP k g (.tuple ((pairs1 g).map pD)) mh (pairs_ok h) h.ok h.gr
  have e2 : isStateOf g (.tuple ((heads g).map .str)) = true := stF_state (heads_st hne)
  have e3 : isEditOf g (.tuple []) = true := rfl
  have e4 : isEditOf g (.tuple ((pairs1 g).map pD)) = true := edF_edit (pairs_ed hne) h.gr
  rw [h.gr] at c1
  rw [e2] at c2
  rw [e3] at c3
  rw [e4] at c4
  have hit : itemsD (gD g) = some (g.map leafD) := rfl
  have m1 : ∀ env : MEnv, env[6]? = some (some (.dat (gD g))) → 7 < env.length → ∀ mh, (evP (CF P sub (k + 5)) (.comp (.idx (.idx (.var 7) (.cst (.int 1))) (.cst (.int 0))) (.nm 7) (.of (.var 6)) (.cst (.bool true)) [7])).1 env mh = .ok (.dat (.list ((heads g).map .str))) mh := fun env h6 h7 mh => by
    have e := ev_map (C := CF P sub (k + 5)) (elt := .idx (.idx (.var 7) (.cst (.int 1))) (.cst (.int 0))) (tg := .nm 7) (it := .of (.var 6)) (c := .cst (.bool true)) (own := [7]) (env := env) (mh := mh) (mh1 := mh) (xs := g.map leafD) (f := fun d => match d with | .tuple [_, .tuple (s :: _)] => s | _ => .none)
      (by simp [evIt, h6, hit]) (by rw [List.length_map]; exact decide_eq_true (by omega)) (fun x hx => by
        obtain ⟨p, hp, rfl⟩ := List.mem_map.mp hx
        obtain ⟨s, r, e⟩ := hne p hp
        have i1 : idxD (leafD p) (.int 1) = some (tS (s :: r)) := by rw [← e]; rfl
        have i2 : idxD (tS (s :: r)) (.int 0) = some (.str s) := by
          show atD (.str s :: r.map .str) ((0 : Nat) : Int) = _
          rw [atD_nat]; rfl
        simp [cmpTurn, bindT, wipeM, h7, i1, i2]
        simp [leafD, e, tS])
    rw [e, List.map_map]
    unfold heads
    rw [List.map_map]
    congr 3
    apply List.map_congr_left
    intro p hp
    obtain ⟨s, r, e⟩ := hne p hp
    simp [leafD, e, tS, headW]
  have m2 : ∀ env : MEnv, env[6]? = some (some (.dat (gD g))) → 7 < env.length → ∀ mh, (evP (CF P sub (k + 5)) (.comp (.tup (.cons (.idx (.var 7) (.cst (.int 0))) (.cons (.idx (.idx (.var 7) (.cst (.int 1))) (.cst (.int 0))) .nil))) (.nm 7) (.of (.var 6)) (.cst (.bool true)) [7])).1 env mh = .ok (.dat (.list ((pairs1 g).map pD))) mh := fun env h6 h7 mh => by
    have e := ev_map (C := CF P sub (k + 5)) (elt := .tup (.cons (.idx (.var 7) (.cst (.int 0))) (.cons (.idx (.idx (.var 7) (.cst (.int 1))) (.cst (.int 0))) .nil))) (tg := .nm 7) (it := .of (.var 6)) (c := .cst (.bool true)) (own := [7]) (env := env) (mh := mh) (mh1 := mh) (xs := g.map leafD) (f := fun d => match d with | .tuple [n, .tuple (s :: _)] => .tuple [n, s] | _ => .none)
      (by simp [evIt, h6, hit]) (by rw [List.length_map]; exact decide_eq_true (by omega)) (fun x hx => by
        obtain ⟨p, hp, rfl⟩ := List.mem_map.mp hx
        obtain ⟨s, r, e⟩ := hne p hp
        have i0 : idxD (leafD p) (.int 0) = some (.str p.1) := rfl
        have i1 : idxD (leafD p) (.int 1) = some (tS (s :: r)) := by rw [← e]; rfl
        have i2 : idxD (tS (s :: r)) (.int 0) = some (.str s) := by
          show atD (.str s :: r.map .str) ((0 : Nat) : Int) = _
          rw [atD_nat]; rfl
        simp [cmpTurn, bindT, wipeM, h7, i0, i1, i2, big]
        simp [leafD, e, tS])
    rw [e, List.map_map]
    unfold pairs1
    rw [List.map_map]
    congr 3
    apply List.map_congr_left
    intro p hp
    obtain ⟨s, r, e⟩ := hne p hp
    simp [leafD, e, tS, headW, pD]
  have m1 := fun mh => m1 (lEnv sc g0 st rs a (some (.dat (gD g))) c) rfl (by simp [lEnv]) mh
  have m2 := fun mh => m2 (lEnv sc g0 st rs a (some (.dat (gD g))) c) rfl (by simp [lEnv]) mh
  unfold lEnv at m1 m2 ⊢
  generalize (heads g).map PyData.str = hs at c2 m1
  generalize (pairs1 g).map pD = ps at c4 m2
  generalize gD g = gg at c1 c2 c3 c4 m1 m2 ⊢
  generalize gD g0 = gg0 at m1 m2 ⊢
  simp [rBody, RV.isDat, c1, c2, c3, c4, m1, m2, bltD, un, tupD, big, isN_bool]
theorem rights_loop (hP : HasAsk P) (k : Nat) (gs : List Gr) (h : ∀ g ∈ gs, RightG g) (sc : PyData) (g0 : Gr) (st rs : PyData) (a b c : Option RV) (mh : MH) :
    ∃ b', forB (CF P sub (k + 5)) (.nm 6) rBody (gs.map gD) (lEnv sc g0 st rs a b c) mh = .next (lEnv sc g0 st rs a b' c) mh := by
  obtain ⟨env', e, b', rfl⟩ := (forB_until (C := CF P sub (k + 5)) (t := .nm 6) (body := rBody) (I := fun env => ∃ b, env = lEnv sc g0 st rs a b c) (P := fun _ => true) (r := .dat .none) (mh := mh) (gs.map gD) (lEnv sc g0 st rs a b c) ⟨b, rfl⟩ (by
    rintro x hx env ⟨b, rfl⟩
    obtain ⟨g, hg, rfl⟩ := List.mem_map.mp hx
    exact ⟨lEnv sc g0 st rs a (some (.dat (gD g))) c, rfl, fun _ => ⟨_, .inl (rBody_ev hP k g (h g hg) sc g0 st rs a c mh), _, rfl⟩, fun h => by cases h⟩)).1 (by simp)
  exact ⟨b', e⟩
end Mn
end
section
set_option linter.all false
set_option autoImplicit false
set_option maxRecDepth 100000
namespace Mn
open PySem
variable {P : Nat → Option FDef} {sub : Nat → Nat → Option Bool}
structure HasK00 (P : Nat → Option FDef) : Prop extends HasAsk P where
  drw : P 31 = some Fn.x_law_draws
  nxt : P 103 = some Fn.x_law_next
  gnd : P 50 = some Fn.x_law_ground
  sta : P 143 = some Fn.x_law_state
  edt : P 33 = some Fn.x_law_edit
  wid : P 165 = some Fn.x_law_wide
  wgr : P 171 = some Fn.x_law_wrong_grounds
  wst : P 173 = some Fn.x_law_wrong_states
  wed : P 170 = some Fn.x_law_wrong_edits
  ing : P 68 = some Fn.x_law_is_no_ground
  law : P 303 = some Fn.x_law
def wgBody : Ss := (.cons (.if_ (.or_ (.cmp .IsNot (.pcall 259 (.cons (.var 8) .nil)) (.cst (.bool false))) (.not_ (.pcall 68 (.cons (.var 8) .nil)))) (.cons (.ret (.cst (.bool false))) .nil) .nil) .nil)
def wsBody : Ss := (.cons (.if_ (.cmp .IsNot (.pcall 284 (.cons (.var 2) (.cons (.var 8) .nil))) (.cst (.bool false))) (.cons (.ret (.cst (.bool false))) .nil) .nil) .nil)
def weBody : Ss := (.cons (.if_ (.cmp .IsNot (.pcall 251 (.cons (.var 2) (.cons (.var 8) .nil))) (.cst (.bool false))) (.cons (.ret (.cst (.bool false))) .nil) .nil) .nil)
def tdBody : Ss := (.cons (.if_ (.or_ (.cmp .IsNot (.pcall 251 (.cons (.var 2) (.cons (.call 33 (.cons (.var 1) (.cons (.var 2) (.cons (.cst (.int 5)) .nil)))) .nil))) (.cst (.bool true))) (.cmp .IsNot (.pcall 284 (.cons (.var 2) (.cons (.call 143 (.cons (.var 1) (.cons (.var 2) .nil))) .nil))) (.cst (.bool true)))) (.cons (.ret (.cst (.bool false))) .nil) .nil) .nil)
theorem wrong_loop {body : Ss} {C : CallF} (sc : PyData) (g : Gr) (st rs : PyData) (a b : Option RV) (mh : MH) (ws : List PyData) (h : ∀ w ∈ ws, evSs C body (lEnv sc g st rs a b (some (.dat w))) mh = .next (lEnv sc g st rs a b (some (.dat w))) mh) (c : Option RV) :
    ∃ c', forB C (.nm 8) body ws (lEnv sc g st rs a b c) mh = .next (lEnv sc g st rs a b c') mh := by
  obtain ⟨env', e, c', rfl⟩ := (forB_until (C := C) (t := .nm 8) (body := body) (I := fun env => ∃ c, env = lEnv sc g st rs a b c) (P := fun _ => true) (r := .dat .none) (mh := mh) ws (lEnv sc g st rs a b c) ⟨c, rfl⟩ (by
    rintro x hx env ⟨c, rfl⟩
    exact ⟨lEnv sc g st rs a b (some (.dat x)), rfl, fun _ => ⟨_, .inl (h x hx), _, rfl⟩, fun h => by cases h⟩)).1 (by simp)
  exact ⟨c', e⟩
theorem c_is_ground' (hP : HasAsk P) (k : Nat) (d : PyData) (mh : MH) (hd : okD d = true) {b : Bool} (h : isGround d = b) : (CF P sub (k + 3)).call 259 [.dat d] mh = .ok (.dat (.bool b)) mh := by
  rw [← h]; exact c_is_ground (sub := sub) hP.toHasGround k d mh hd
theorem wg_ev (hP : HasK00 P) (s1 : sub 15 5 = some true) (s2 : sub 15 15 = some true) (s3 : sub 15 38 = some true) (k : Nat) (sc : PyData) (g : Gr) (st rs : PyData) (a b : Option RV) (mh : MH) (w : PyData) (h : okD w = true ∧ isGround w = false) :
    evSs (CF P sub (k + 6)) wgBody (lEnv sc g st rs a b (some (.dat w))) mh = .next (lEnv sc g st rs a b (some (.dat w))) mh := by
  have c1 : ∀ mh, (CF P sub (k + 6)).call 259 [.dat w] mh = .ok (.dat (.bool false)) mh := fun mh => c_is_ground' (sub := sub) hP.toHasAsk (k + 3) w mh h.1 h.2
  have c2 := fun mh => c_no_ground (sub := sub) hP.toHasAsk hP.ing s1 s2 s3 k w h.1 h.2 mh
  unfold lEnv
  generalize gD g = gg
  simp [wgBody, RV.isDat, c1, c2, isN_bool]
theorem ws_ev (hP : HasK00 P) (k : Nat) (sc : PyData) (g : Gr) (hg : RightG g) (st rs : PyData) (a b : Option RV) (mh : MH) (w : PyData) (h : okT w = true ∧ isStateOf g w = false) :
    evSs (CF P sub (k + 5)) wsBody (lEnv sc g st rs a b (some (.dat w))) mh = .next (lEnv sc g st rs a b (some (.dat w))) mh := by
  have c1 := fun mh => c_is_state (sub := sub) hP.toHasAsk k g w mh h.1 hg.ok hg.gr
  rw [h.2] at c1
  unfold lEnv
  generalize gD g = gg at c1 ⊢
  simp [wsBody, RV.isDat, c1, isN_bool]
theorem we_ev (hP : HasK00 P) (k : Nat) (sc : PyData) (g : Gr) (hg : RightG g) (st rs : PyData) (a b : Option RV) (mh : MH) (w : PyData) (h : okT w = true ∧ isEditOf g w = false) :
    evSs (CF P sub (k + 5)) weBody (lEnv sc g st rs a b (some (.dat w))) mh = .next (lEnv sc g st rs a b (some (.dat w))) mh := by
  have c1 := fun mh => c_is_edit (sub := sub) hP.toHasAsk k g w mh h.1 hg.ok hg.gr
  rw [h.2] at c1
  unfold lEnv
  generalize gD g = gg at c1 ⊢
  simp [weBody, RV.isDat, c1, isN_bool]
theorem stF_okT {g : Gr} {ss : List Str} (hg : goodG g) (hl : g.length ≤ 5) (h : stF g ss) : okT (tS ss) = true := by
  obtain ⟨h1, _⟩ := stF_row h
  exact okD_tS (stF_okD hg h) (decide_eq_true (by omega))
theorem edF_okT {g : Gr} {es : List (Str × Str)} (hg : goodG g) (hl : g.length ≤ 5) (h : edF g g es) : okT (.tuple (es.map pD)) = true := by
  have hlen := h.1.length_le
  rw [List.length_map, List.length_map] at hlen
  refine okD_tup (by rw [List.length_map]; omega) fun x hx => ?_
  obtain ⟨e, he, rfl⟩ := List.mem_map.mp hx
  obtain ⟨p, hp, h1, h2⟩ := h.2 e he
  have b := leaf_okD (goodG_ok hg hl) hp
  show (big 2 && (big e.1.length && (big e.2.length && true))) = true
  rw [h1, b.1, b.2 _ h2]; rfl
theorem td_ev (hP : HasK00 P) (k : Nat) (sc : PyData) (g : Gr) (hg : goodG g) (hl : g.length ≤ 5) (hr : RightG g) (st rs : PyData) (a b c : Option RV) (is : List Int) :
    ∃ js, evSs (CF P sub (k + 5)) tdBody (lEnv sc g st rs a b c) [.lst (iL is)] = .next (lEnv sc g st rs a b c) [.lst (iL js)] := by
  obtain ⟨es, js, e1, h1⟩ := c_edit (sub := sub) hP.edt hP.nxt (k + 3) g 5 (goodG_ne hg) (by omega) is
  obtain ⟨ss, js2, e2, h2⟩ := c_state (sub := sub) hP.sta hP.nxt (k + 3) g (goodG_ne hg) (decide_eq_true (by omega)) js
  have c1 := fun mh => c_is_edit (sub := sub) hP.toHasAsk k g _ mh (edF_okT hg hl h1) hr.ok hr.gr
  have c2 := fun mh => c_is_state (sub := sub) hP.toHasAsk k g _ mh (stF_okT hg hl h2) hr.ok hr.gr
  rw [edF_edit h1 hr.gr] at c1
  rw [stF_state h2] at c2
  refine ⟨js2, ?_⟩
  unfold lEnv
  generalize gD g = gg at c1 c2 e1 e2 ⊢
  generalize es.map pD = ed at c1 e1
  generalize tS ss = sd at c2 e2
  simp [tdBody, RV.passes, RV.isDat, e1, e2, c1, c2, isN_bool]
theorem td_loop (hP : HasK00 P) (k n : Nat) (sc : PyData) (g : Gr) (hg : goodG g) (hl : g.length ≤ 5) (hr : RightG g) (st rs : PyData) (a b c : Option RV) (is : List Int) :
    ∃ a' js, forB (CF P sub (k + 5)) (.nm 5) tdBody (rngD 0 n) (lEnv sc g st rs a b c) [.lst (iL is)] = .next (lEnv sc g st rs a' b c) [.lst (iL js)] := by
  obtain ⟨env', mh', e, a', js, rfl, rfl⟩ := forB_idx (C := CF P sub (k + 5)) (t := .nm 5) (body := tdBody) (rngD 0 n) (fun _ env mh => ∃ a js, env = lEnv sc g st rs a b c ∧ mh = [.lst (iL js)]) (lEnv sc g st rs a b c) [.lst (iL is)] ⟨a, is, rfl, rfl⟩ (by
    rintro i x hx env mh ⟨a, js, rfl, rfl⟩
    obtain ⟨js', e⟩ := td_ev (sub := sub) hP k sc g hg hl hr st rs (some (.dat x)) b c js
    exact ⟨lEnv sc g st rs (some (.dat x)) b c, rfl, _, _, e, _, js', rfl, rfl⟩)
  exact ⟨a', js, e⟩
def digG : Gr := [("a", (List.range 8).map sI)]
def bigG : Gr := [("abcdefgh", ["0", "abcdefgh", "z9z"])]
theorem rt_wide : RightG (wideG 40) := ⟨by decide +kernel, by decide +kernel⟩
theorem rt_dig : RightG digG := ⟨by decide +kernel, by decide +kernel⟩
theorem rt_big : RightG bigG := ⟨by decide +kernel, by decide +kernel⟩
theorem c_law (hP : HasK00 P) (s1 : sub 15 5 = some true) (s2 : sub 15 15 = some true) (s3 : sub 15 38 = some true) (k : Nat) (ns : List Int) (hn : ns.length ≤ 63) :
    ∃ mh, (CF P sub (k + 7)).call 303 [.dat (scriptD ns)] [] = .ok (.dat (.bool true)) mh := by
  obtain ⟨ds, e1⟩ := c_draws (sub := sub) hP.drw (k + 5) ns hn 120 (by omega)
  obtain ⟨g, d2, e2, hg, hl1, hl5⟩ := c_ground (sub := sub) hP.gnd hP.nxt (k + 4) 5 (by omega) ds
  have hl : g.length ≤ 5 := by omega
  have hr : RightG g := ⟨goodG_ok hg hl, goodG_ground hg hl1 hl⟩
  obtain ⟨st, d3, e3, hs⟩ := c_state (sub := sub) hP.sta hP.nxt (k + 4) g (goodG_ne hg) (decide_eq_true (by omega)) d2
  cases g with
  | nil => simp at hl1
  | cons p g =>
  cases st with
  | nil => exact hs.elim
  | cons s ss =>
  have hl4 : g.length ≤ 4 := by simp at hl; omega
  have hsl : ss.length = g.length := by
    have := (stF_row hs).1
    simpa using this
  obtain ⟨J, hJ⟩ := join_ex hg hs (by simp; omega)
  have cw := fun mh => c_wide (sub := sub) hP.wid (k + 5) 40 (by omega) mh
  have dg := fun env (hv : 5 < env.length) mh => itC_dig (CF P sub (k + 6)) 8 5 env hv (by omega) mh
  obtain ⟨b1, r1⟩ := rights_loop (sub := sub) hP.toHasAsk (k + 1) [p :: g, wideG 40, bigG, digG] (by
    intro x hx
    simp only [List.mem_cons, List.not_mem_nil, or_false] at hx
    rcases hx with rfl | rfl | rfl | rfl
    · exact hr
    · exact rt_wide
    · exact rt_big
    · exact rt_dig) (scriptD ns) (p :: g) (tS (s :: ss)) (.list ([p :: g, wideG 40, bigG, digG].map gD)) none none none [.lst (iL d3)]
  have hp1 : p.1 = "a" := by
    have h := hg.1
    rw [List.map_cons, List.length_cons] at h
    exact (List.cons.inj h).1
  have f1 := c_wrong_grounds (sub := sub) hP.wgr hP.wid (k + 4) p g hl4 []
  have f2 := c_wrong_states (sub := sub) hP.wst (k + 5) p g s ss J hJ (by omega) []
  have f3 := c_wrong_edits (sub := sub) hP.wed (k + 5) p g s ss hsl []
  obtain ⟨c1, l1⟩ := wrong_loop (C := CF P sub (k + 6)) (scriptD ns) (p :: g) (tS (s :: ss)) (.list ([p :: g, wideG 40, bigG, digG].map gD)) none b1 [.lst (iL d3)] (wrongsG p g) (fun w hw => wg_ev hP s1 s2 s3 k _ _ _ _ _ _ _ w (wrongs_no p g hp1 (hg.2 p List.mem_cons_self) hg hl4 w hw)) none
  obtain ⟨c2, l2⟩ := wrong_loop (C := CF P sub (k + 6)) (scriptD ns) (p :: g) (tS (s :: ss)) (.list ([p :: g, wideG 40, bigG, digG].map gD)) none b1 [.lst (iL d3)] (wrongsS p s ss J) (fun w hw => ws_ev hP (k + 1) _ _ hr _ _ _ _ _ w (wrongsS_no p g s ss J hg hl4 hs w hw)) c1
  obtain ⟨c3, l3⟩ := wrong_loop (C := CF P sub (k + 6)) (scriptD ns) (p :: g) (tS (s :: ss)) (.list ([p :: g, wideG 40, bigG, digG].map gD)) none b1 [.lst (iL d3)] (wrongsE0 p.1 s ++ wrongsE1 p.1 s g ss) (fun w hw => we_ev hP (k + 1) _ _ hr _ _ _ _ _ w (wrongsE_no p g s ss hg hs w hw)) c2
  obtain ⟨a4, d4, l4⟩ := td_loop (sub := sub) hP (k + 1) 4 (scriptD ns) (p :: g) hg hl hr (tS (s :: ss)) (.list ([p :: g, wideG 40, bigG, digG].map gD)) none b1 c3 d3
  have cg : ∀ mh, (CF P sub (k + 6)).call 259 [.dat (gD (p :: g))] mh = .ok (.dat (.bool true)) mh := fun mh => c_is_ground' (sub := sub) hP.toHasAsk (k + 3) (gD (p :: g)) mh hr.ok hr.gr
  refine ⟨[.lst (iL d4)], ?_⟩
  rw [cf_succ hP.law]
  have key : evSs (CF P sub (k + 6)) Fn.x_law.body [some (.dat (scriptD ns)), none, none, none, none, none, none, none, none] [] = .ret (.dat (.bool true)) [.lst (iL d4)] := by
    unfold Fn.x_law
    refine step (env' := [some (.dat (scriptD ns)), some (.ref 0), none, none, none, none, none, none, none]) (mh' := [.lst (iL ds)]) ?_ ?_
    · have e1 : (CF P sub (k + 6)).call 31 [.dat (scriptD ns), .dat (.int 120)] [] = .ok (.olst (iL ds)) [] := e1
      generalize iL ds = dl at e1 ⊢
      generalize scriptD ns = sc at e1 ⊢
      simp [RV.isDat, e1, freshV, isFresh, isCall, setN, toCell]
    refine step (env' := [some (.dat (scriptD ns)), some (.ref 0), some (.dat (gD (p :: g))), none, none, none, none, none, none]) (mh' := [.lst (iL d2)]) ?_ ?_
    · have e2 : (CF P sub (k + 6)).call 50 [.ref 0, .dat (.int 5)] [.lst (iL ds)] = .ok (.dat (gD (p :: g))) [.lst (iL d2)] := e2
      generalize iL ds = dl at e2 ⊢
      generalize gD (p :: g) = gg at e2 ⊢
      simp [RV.passes, e2, bindT]
    refine step (env' := [some (.dat (scriptD ns)), some (.ref 0), some (.dat (gD (p :: g))), some (.dat (tS (s :: ss))), none, none, none, none, none]) (mh' := [.lst (iL d3)]) ?_ ?_
    · have e3 : (CF P sub (k + 6)).call 143 [.ref 0, .dat (gD (p :: g))] [.lst (iL d2)] = .ok (.dat (tS (s :: ss))) [.lst (iL d3)] := e3
      generalize iL d3 = dl at e3 ⊢
      generalize gD (p :: g) = gg at e3 ⊢
      generalize tS (s :: ss) = sd at e3 ⊢
      simp [RV.passes, e3, bindT]
    refine step (env' := lEnv (scriptD ns) (p :: g) (tS (s :: ss)) (.list ([p :: g, wideG 40, bigG, digG].map gD)) none none none) (mh' := [.lst (iL d3)]) ?_ ?_
    · have dg := fun env hv mh => dg env hv mh
      have hd : gD digG = .tuple [.tuple [.str "a", .tuple ((List.range 8).map fun i => .str (sI i))]] := by
        simp [gD, digG, leafD, tS]
      have hb : gD bigG = .tuple [.tuple [.str "abcdefgh", .tuple [.str "0", .str "abcdefgh", .str "z9z"]]] := rfl
      have cw : ∀ mh, (CF P sub (k + 6)).call 165 [.dat (.int 40)] mh = .ok (.dat (gD (wideG 40))) mh := cw
      unfold lEnv
      rw [List.map_cons, List.map_cons, List.map_cons, List.map_cons, List.map_nil, hd, hb]
      simp only [show ((8 : Nat) : Int) = (8 : Int) from rfl] at dg
      generalize (List.range 8).map (fun i => PyData.str (sI i)) = dd at dg ⊢
      generalize gD (p :: g) = gg
      generalize gD (wideG 40) = wd at cw ⊢
      generalize tS (s :: ss) = sd
      simp [RV.isDat, bindT, cw, dg, bltD, un, tupD, big]
    have hsum : ∀ (s : PyData) (b : Option RV) (e : E) (body : Ss) (t : Tg), True := fun _ _ _ _ _ => trivial
    refine step (env' := lEnv (scriptD ns) (p :: g) (tS (s :: ss)) (.list ([p :: g, wideG 40, bigG, digG].map gD)) none b1 none) (mh' := [.lst (iL d3)]) ?_ ?_
    · rw [evS_for]
      exact r1
    refine step (env' := lEnv (scriptD ns) (p :: g) (tS (s :: ss)) (.list ([p :: g, wideG 40, bigG, digG].map gD)) none b1 c1) (mh' := [.lst (iL d3)]) ?_ ?_
    · rw [evS_for]
      have hi : evItF (CF P sub (k + 6)) (.of (.pcall 171 (.cons (.var 2) .nil))) (lEnv (scriptD ns) (p :: g) (tS (s :: ss)) (.list ([p :: g, wideG 40, bigG, digG].map gD)) none b1 none) [.lst (iL d3)] = .ok (wrongsG p g) [.lst (iL d3)] := by
        show (pureCall true ((CF P sub (k + 6)).call 171 [.dat (gD (p :: g))] []) [.lst (iL d3)]).bind _ = _
        rw [f1]; rfl
      rw [hi]
      exact l1
    refine step (env' := lEnv (scriptD ns) (p :: g) (tS (s :: ss)) (.list ([p :: g, wideG 40, bigG, digG].map gD)) none b1 c2) (mh' := [.lst (iL d3)]) ?_ ?_
    · rw [evS_for]
      have hi : evItF (CF P sub (k + 6)) (.of (.pcall 173 (.cons (.var 2) (.cons (.var 3) .nil)))) (lEnv (scriptD ns) (p :: g) (tS (s :: ss)) (.list ([p :: g, wideG 40, bigG, digG].map gD)) none b1 c1) [.lst (iL d3)] = .ok (wrongsS p s ss J) [.lst (iL d3)] := by
        show (pureCall true ((CF P sub (k + 6)).call 173 [.dat (gD (p :: g)), .dat (tS (s :: ss))] []) [.lst (iL d3)]).bind _ = _
        rw [f2]; rfl
      rw [hi]
      exact l2
    refine step (env' := lEnv (scriptD ns) (p :: g) (tS (s :: ss)) (.list ([p :: g, wideG 40, bigG, digG].map gD)) none b1 c3) (mh' := [.lst (iL d3)]) ?_ ?_
    · rw [evS_for]
      have hi : evItF (CF P sub (k + 6)) (.of (.pcall 170 (.cons (.var 2) (.cons (.var 3) .nil)))) (lEnv (scriptD ns) (p :: g) (tS (s :: ss)) (.list ([p :: g, wideG 40, bigG, digG].map gD)) none b1 c2) [.lst (iL d3)] = .ok (wrongsE0 p.1 s ++ wrongsE1 p.1 s g ss) [.lst (iL d3)] := by
        show (pureCall true ((CF P sub (k + 6)).call 170 [.dat (gD (p :: g)), .dat (tS (s :: ss))] []) [.lst (iL d3)]).bind _ = _
        rw [f3]; rfl
      rw [hi]
      exact l3
    refine step (env' := lEnv (scriptD ns) (p :: g) (tS (s :: ss)) (.list ([p :: g, wideG 40, bigG, digG].map gD)) a4 b1 c3) (mh' := [.lst (iL d4)]) ?_ ?_
    · rw [evS_for]
      exact l4
    · unfold lEnv
      generalize gD (p :: g) = gg at cg ⊢
      generalize [p :: g, wideG 40, bigG, digG].map gD = rs
      generalize tS (s :: ss) = sd
      generalize scriptD ns = sc
      simp [RV.isDat, cg, isD_bool]
  unfold runF
  rw [if_pos (by refine ⟨rfl, by decide, rfl⟩)]
  show bodyEnd (evSs (CF P sub (k + 6)) Fn.x_law.body [some (.dat (scriptD ns)), none, none, none, none, none, none, none, none] []) = _
  rw [key]; rfl
end Mn
end
section
set_option maxHeartbeats 0
open PySem PySem.Spec PyProof.Rows L2
namespace Mn.K00
def top (i : Nat) : Stmt := PySem.Challenge.pw_justenough_k00_grounds_states_and_edits.main.body.getD i (.Pass ⟨0, 0, 0, 0⟩)
def q_is_worth : Df := ⟨295, "is_worth", ["thing"], ["thing", "sign"], Fn.is_worth, top 6⟩
def q_is_name : Df := ⟨265, "is_name", ["thing"], ["thing"], Fn.is_name, top 7⟩
def q_is_rising : Df := ⟨280, "is_rising", ["things"], ["things", "at"], Fn.is_rising, top 8⟩
def q_is_word : Df := ⟨294, "is_word", ["thing", "words"], ["thing", "words"], Fn.is_word, top 9⟩
def q_is_pair : Df := ⟨274, "is_pair", ["thing"], ["thing"], Fn.is_pair, top 10⟩
def q_is_worths : Df := ⟨296, "is_worths", ["thing", "least", "most"], ["thing", "least", "most", "one"], Fn.is_worths, top 11⟩
def q_is_ground : Df := ⟨259, "is_ground", ["thing"], ["thing", "pair", "leaf", "unused"], Fn.is_ground, top 13⟩
def q_ask_ground : Df := ⟨190, "ask_ground", ["ground"], ["ground"], Fn.ask_ground, top 14⟩
def q_is_state_of : Df := ⟨285, "is_state_of", ["ground", "thing"], ["ground", "thing", "worth", "pair"], Fn.is_state_of, top 15⟩
def q_is_edit_of : Df := ⟨253, "is_edit_of", ["ground", "thing"], ["ground", "thing", "worths", "pair", "leaf", "unused"], Fn.is_edit_of, top 16⟩
def q_is_state : Df := ⟨284, "is_state", ["ground", "thing"], ["ground", "thing"], Fn.is_state, top 17⟩
def q_is_edit : Df := ⟨251, "is_edit", ["ground", "thing"], ["ground", "thing"], Fn.is_edit, top 18⟩
def q_x_law_draws : Df := ⟨31, "_law_draws", ["script", "many"], ["script", "many", "cells", "cell", "left", "draws", "k", "at", "mixed"], Fn.x_law_draws, top 20⟩
def q_x_law_next : Df := ⟨103, "_law_next", ["draws", "many"], ["draws", "many"], Fn.x_law_next, top 21⟩
def q_x_law_ground : Df := ⟨50, "_law_ground", ["draws", "most"], ["draws", "most", "ground", "names", "k", "worths"], Fn.x_law_ground, top 22⟩
def q_x_law_all : Df := ⟨4, "_law_all", ["ground"], ["ground", "states", "pair", "more", "state", "worth"], Fn.x_law_all, top 23⟩
def q_x_law_told : Df := ⟨154, "_law_told", ["ground", "state"], ["ground", "state", "told", "k"], Fn.x_law_told, top 24⟩
def q_x_law_state : Df := ⟨143, "_law_state", ["draws", "ground"], ["draws", "ground", "pair"], Fn.x_law_state, top 25⟩
def q_x_law_edit : Df := ⟨33, "_law_edit", ["draws", "ground", "most"], ["draws", "ground", "most", "told", "pair"], Fn.x_law_edit, top 26⟩
def q_x_law_has : Df := ⟨52, "_law_has", ["ground", "state", "edit"], ["ground", "state", "edit", "told", "pair"], Fn.x_law_has, top 27⟩
def q_x_law_wrong_grounds : Df := ⟨171, "_law_wrong_grounds", ["ground"], ["ground", "first", "told", "k"], Fn.x_law_wrong_grounds, top 28⟩
def q_x_law_wide : Df := ⟨165, "_law_wide", ["many"], ["many", "k"], Fn.x_law_wide, top 29⟩
def q_x_law_wrong_states : Df := ⟨173, "_law_wrong_states", ["ground", "state"], ["ground", "state", "told"], Fn.x_law_wrong_states, top 30⟩
def q_x_law_wrong_edits : Df := ⟨170, "_law_wrong_edits", ["ground", "state"], ["ground", "state", "pair", "told"], Fn.x_law_wrong_edits, top 31⟩
def q_x_law_is_no_ground : Df := ⟨68, "_law_is_no_ground", ["wrong"], ["wrong", "told", "word", "e"], Fn.x_law_is_no_ground, top 32⟩
def q_x_law : Df := ⟨303, "law", ["script"], ["script", "draws", "ground", "state", "rights", "k", "right", "pair", "wrong"], Fn.x_law, top 33⟩
def law : Law := ⟨[q_is_worth, q_is_name, q_is_rising, q_is_word, q_is_pair, q_is_worths, q_is_ground, q_ask_ground, q_is_state_of, q_is_edit_of, q_is_state, q_is_edit, q_x_law_draws, q_x_law_next, q_x_law_ground, q_x_law_all, q_x_law_told, q_x_law_state, q_x_law_edit, q_x_law_has, q_x_law_wrong_grounds, q_x_law_wide, q_x_law_wrong_states, q_x_law_wrong_edits, q_x_law_is_no_ground, q_x_law], [(5, "EnoughError", true), (15, "NoGround", true), (38, "ValueError", false)], "EnoughError", [((5, 5), true), ((5, 15), false), ((5, 38), true), ((15, 5), true), ((15, 15), true), ((15, 38), true)], [(0, "LETTERS", "abcdefghijklmnopqrstuvwxyz"), (11, "SIGNS", "abcdefghijklmnopqrstuvwxyz0123456789")]⟩
theorem b_is_worth : BindOk q_is_worth := fun _ _ _ _ _ _ us hl => match us, hl with | [_], _ => rfl
theorem b_is_name : BindOk q_is_name := fun _ _ _ _ _ _ us hl => match us, hl with | [_], _ => rfl
theorem b_is_rising : BindOk q_is_rising := fun _ _ _ _ _ _ us hl => match us, hl with | [_], _ => rfl
theorem b_is_word : BindOk q_is_word := fun _ _ _ _ _ _ us hl => match us, hl with | [_, _], _ => rfl
theorem b_is_pair : BindOk q_is_pair := fun _ _ _ _ _ _ us hl => match us, hl with | [_], _ => rfl
theorem b_is_worths : BindOk q_is_worths := fun _ _ _ _ _ _ us hl => match us, hl with | [_, _, _], _ => rfl
theorem b_is_ground : BindOk q_is_ground := fun _ _ _ _ _ _ us hl => match us, hl with | [_], _ => rfl
theorem b_ask_ground : BindOk q_ask_ground := fun _ _ _ _ _ _ us hl => match us, hl with | [_], _ => rfl
theorem b_is_state_of : BindOk q_is_state_of := fun _ _ _ _ _ _ us hl => match us, hl with | [_, _], _ => rfl
theorem b_is_edit_of : BindOk q_is_edit_of := fun _ _ _ _ _ _ us hl => match us, hl with | [_, _], _ => rfl
theorem b_is_state : BindOk q_is_state := fun _ _ _ _ _ _ us hl => match us, hl with | [_, _], _ => rfl
theorem b_is_edit : BindOk q_is_edit := fun _ _ _ _ _ _ us hl => match us, hl with | [_, _], _ => rfl
theorem b_x_law_draws : BindOk q_x_law_draws := fun _ _ _ _ _ _ us hl => match us, hl with | [_, _], _ => rfl
theorem b_x_law_next : BindOk q_x_law_next := fun _ _ _ _ _ _ us hl => match us, hl with | [_, _], _ => rfl
theorem b_x_law_ground : BindOk q_x_law_ground := fun _ _ _ _ _ _ us hl => match us, hl with | [_, _], _ => rfl
theorem b_x_law_all : BindOk q_x_law_all := fun _ _ _ _ _ _ us hl => match us, hl with | [_], _ => rfl
theorem b_x_law_told : BindOk q_x_law_told := fun _ _ _ _ _ _ us hl => match us, hl with | [_, _], _ => rfl
theorem b_x_law_state : BindOk q_x_law_state := fun _ _ _ _ _ _ us hl => match us, hl with | [_, _], _ => rfl
theorem b_x_law_edit : BindOk q_x_law_edit := fun _ _ _ _ _ _ us hl => match us, hl with | [_, _, _], _ => rfl
theorem b_x_law_has : BindOk q_x_law_has := fun _ _ _ _ _ _ us hl => match us, hl with | [_, _, _], _ => rfl
theorem b_x_law_wrong_grounds : BindOk q_x_law_wrong_grounds := fun _ _ _ _ _ _ us hl => match us, hl with | [_], _ => rfl
theorem b_x_law_wide : BindOk q_x_law_wide := fun _ _ _ _ _ _ us hl => match us, hl with | [_], _ => rfl
theorem b_x_law_wrong_states : BindOk q_x_law_wrong_states := fun _ _ _ _ _ _ us hl => match us, hl with | [_, _], _ => rfl
theorem b_x_law_wrong_edits : BindOk q_x_law_wrong_edits := fun _ _ _ _ _ _ us hl => match us, hl with | [_, _], _ => rfl
theorem b_x_law_is_no_ground : BindOk q_x_law_is_no_ground := fun _ _ _ _ _ _ us hl => match us, hl with | [_], _ => rfl
theorem b_x_law : BindOk q_x_law := fun _ _ _ _ _ _ us hl => match us, hl with | [_], _ => rfl
theorem binds : ∀ q ∈ law.df, BindOk q := (List.forall_mem_cons.mpr ⟨b_is_worth, (List.forall_mem_cons.mpr ⟨b_is_name, (List.forall_mem_cons.mpr ⟨b_is_rising, (List.forall_mem_cons.mpr ⟨b_is_word, (List.forall_mem_cons.mpr ⟨b_is_pair, (List.forall_mem_cons.mpr ⟨b_is_worths, (List.forall_mem_cons.mpr ⟨b_is_ground, (List.forall_mem_cons.mpr ⟨b_ask_ground, (List.forall_mem_cons.mpr ⟨b_is_state_of, (List.forall_mem_cons.mpr ⟨b_is_edit_of, (List.forall_mem_cons.mpr ⟨b_is_state, (List.forall_mem_cons.mpr ⟨b_is_edit, (List.forall_mem_cons.mpr ⟨b_x_law_draws, (List.forall_mem_cons.mpr ⟨b_x_law_next, (List.forall_mem_cons.mpr ⟨b_x_law_ground, (List.forall_mem_cons.mpr ⟨b_x_law_all, (List.forall_mem_cons.mpr ⟨b_x_law_told, (List.forall_mem_cons.mpr ⟨b_x_law_state, (List.forall_mem_cons.mpr ⟨b_x_law_edit, (List.forall_mem_cons.mpr ⟨b_x_law_has, (List.forall_mem_cons.mpr ⟨b_x_law_wrong_grounds, (List.forall_mem_cons.mpr ⟨b_x_law_wide, (List.forall_mem_cons.mpr ⟨b_x_law_wrong_states, (List.forall_mem_cons.mpr ⟨b_x_law_wrong_edits, (List.forall_mem_cons.mpr ⟨b_x_law_is_no_ground, (List.forall_mem_cons.mpr ⟨b_x_law, (fun _ h => nomatch h)⟩)⟩)⟩)⟩)⟩)⟩)⟩)⟩)⟩)⟩)⟩)⟩)⟩)⟩)⟩)⟩)⟩)⟩)⟩)⟩)⟩)⟩)⟩)⟩)⟩)⟩)
def loose0 : List Str := ["__name__", "EnoughError", "NoGround", "LETTERS", "SIGNS", "is_worth", "is_name", "is_rising", "is_word", "is_pair", "is_worths", "is_ground", "ask_ground", "is_state_of", "is_edit_of", "is_state", "is_edit", "_law_draws", "_law_next", "_law_ground", "_law_all", "_law_told", "_law_state", "_law_edit", "_law_has", "_law_wrong_grounds", "_law_wide", "_law_wrong_states", "_law_wrong_edits", "_law_is_no_ground"]
def loose : List Str := loose0
abbrev R : PySem.W.OpenRow := PySem.W.OpenLaw.row PySem.Challenge.rw_justenough_k00_grounds_states_and_edits
abbrev hk : PySem.W.Hook := hookM 5 law.fa law.fn law.ex
def ob (s : PySem.W.SharedT) : AlM := obsM 5 law.fa law.fn law.ex (HandSHeadRun.getT s)
theorem ob_eq (s : PySem.W.SharedT) : ob s = hk.obs s.abs := obsM_eq (HandSHeadRun.getT_eq s)
theorem run (w : World) : HandSHeadRun.RunEq R (PySem.W.view R.prog [33]) hk ob 4000 loose w := by
  intro os
  kernel_rfl
theorem okB : law.okB = true := by kernel_rfl
end Mn.K00
end
namespace Mn.K00
open PySem
theorem hasK : HasK00 (progOf law.df) where
  wo := rfl
  na := rfl
  ri := rfl
  pa := rfl
  ws := rfl
  gr := rfl
  wd := rfl
  ak := rfl
  so := rfl
  eo := rfl
  st := rfl
  ed := rfl
  drw := rfl
  nxt := rfl
  gnd := rfl
  sta := rfl
  edt := rfl
  wid := rfl
  wgr := rfl
  wst := rfl
  wed := rfl
  ing := rfl
  law := rfl
theorem ends (ns : List Int) (hn : ns.length ≤ 63) : ∃ mh, callN (progOf law.df) law.subF 7 303 [.dat (scriptD ns)] [] = .ok (.dat (.bool true)) mh :=
  c_law (P := progOf law.df) (sub := law.subF) hasK rfl rfl rfl 0 ns hn
end Mn.K00
open PySem PySem.W PySem.Calls PyProof.Rows
set_option maxHeartbeats 0
theorem PySem.Challenge.cw_justenough_k00_grounds_states_and_edits_holds : PySem.Challenge.rw_justenough_k00_grounds_states_and_edits.Holds := by
  w_on; o_law
  refine HandSHeadRun.head_any (r := OpenLaw.row PySem.Challenge.rw_justenough_k00_grounds_states_and_edits) (q := view (OpenLaw.row PySem.Challenge.rw_justenough_k00_grounds_states_and_edits).prog [33]) (H := Mn.K00.hk) (ob := Mn.K00.ob) (M := 4000) (loose := Mn.K00.loose) (d := HandSHeadRun.topDef (OpenLaw.row PySem.Challenge.rw_justenough_k00_grounds_states_and_edits).prog 33) (kwd := []) Mn.K00.ob_eq
    (by kernel_rfl) (fun s => by kernel_rfl) Mn.K00.run (by kernel_rfl) (by kernel_rfl) (by kernel_rfl) (by rfl) (by first | assumption | decide +kernel) (by decide +kernel) ⟨rfl, rfl, rfl, rfl, rfl, by decide +kernel⟩ ?hw ?hc
  case hw => w_witness2
  case hc =>
    exact Mn.Law.walk (L := PySem.Challenge.rw_justenough_k00_grounds_states_and_edits) (n := 63) (k := 7) (f := 303) (dq := Mn.K00.q_x_law) Mn.K00.law 5 Mn.K00.okB Mn.K00.binds rfl (by decide) (by kernel_rfl) ⟨rfl, by decide, by decide⟩ rfl (by kernel_rfl) ⟨_, rfl⟩ Mn.K00.ends
