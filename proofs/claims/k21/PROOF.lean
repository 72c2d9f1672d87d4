import PyProof.Rows.All
import Wide.All
import OpenK.AllK
import Wide.FinOn
import HandS.ForMost
import HandS.TupAny
import KE.DataMinMax
import HandS.List
import HandS.Call
import PyProof.TwoTypes
import PyProof.TwoTypesSub
import PyProof.Rows.RuleB_bool
import HandS.Dict
import HandS.Deep
import PyProof.NeKinds
import HandS.IsInst
import HandS.Style
import HandS.Wide
import PyProof.Rows.StrMul
import PyProof.Rows.RuleB_pow
import PyProof.ReprReads
import PyProof.CallFns
import KE.SortCalls
import HandS.NoneIn
import HandS.More
import KE.KDictPairs
import HandS.DictTup
import HandS.Iter
import HandS.DictComp
import HandS.TupSets
import HandS.Text
import PyProof.WalksMore
import PyProof.CollectIter
import HandS.Words
import HandS.EndBits
import HandS.Codes
import HandS.Defaults
import PyProof.StrLawsRepr
import KE.KIntText
import PySem.Challenge.RW_leanfar_k21_whole_taken_back_and_vouched
import KE.SortData
set_option Elab.async false
set_option linter.all false
set_option maxRecDepth 100000
/-! A small language, its values, its interpreter. -/
namespace Lf
open PySem

abbrev lim : Nat := 1000000
abbrev limR : Nat := 10000000

/-! ## values -/
inductive Vl where
  | d (x : PyData)
  | ref (n : Nat)
  | scr (ns : List Int)
inductive Cell where
  | lst (xs : List PyData)
  | dct (kvs : List (PyData × PyData))
abbrev Store := List (Option Cell)
abbrev Env := List (Option Vl)
/-- what an expression gives: a value, or a list or dict that was just made -/
inductive Out where
  | val (v : Vl)
  | lst (xs : List PyData)
  | dct (kvs : List (PyData × PyData))
inductive Res (α : Type) where
  | ok (a : α) (s : Store)
  | exc (c : Nat) (s : Store)
  | stuck
abbrev M (α : Type) := Store → Res α

def M.bind {α β : Type} (m : M α) (f : α → M β) : M β := fun s => match m s with
  | .ok a s' => f a s'
  | .exc c s' => .exc c s'
  | .stuck => .stuck
def M.pure {α : Type} (a : α) : M α := fun s => .ok a s
def M.lift {α : Type} : Option α → M α
  | some a => M.pure a
  | none => fun _ => .stuck

def settle : Out → Vl
  | .val v => v
  | .lst xs => .d (.list xs)
  | .dct kvs => .d (.dict kvs)
def Vl.asD : Vl → Option PyData
  | .d x => some x
  | _ => none
def cellAt (S : Store) (n : Nat) : Option Cell := (S[n]?).bind id
/-- what it is as data, a cell read as it stands -/
def toD (S : Store) : Vl → Option PyData
  | .d x => some x
  | .ref n => match cellAt S n with
    | some (.lst xs) => some (.list xs)
    | some (.dct kvs) => some (.dict kvs)
    | none => none
  | .scr _ => none
/-- .. the script, too -/
def toDw (S : Store) : Vl → Option PyData
  | .scr ns => some (.list (ns.map .int))
  | v => toD S v
def listOf (S : Store) (v : Vl) : Option (List PyData) := match toD S v with
  | some (.list xs) => some xs
  | _ => none
def val (m : M Out) : M Vl := M.bind m fun o => M.pure (settle o)
def datum (m : M Out) : M PyData := M.bind m fun o => M.lift (settle o).asD

/-! ## operators -/
inductive BO where
  | add | sub | mul | mod | fdiv | pow
  deriving DecidableEq
inductive CO where
  | eq | ne | lt | le | gt | ge | isn | nisn | inn | nin
  deriving DecidableEq
inductive TY where
  | bool | int | str | list | tuple | dict
  deriving DecidableEq
inductive BF where
  | all | any | max2 | min2 | maxl | minl | sortedR | repr | str | int | list | tuple | sum | sorted | lenset | sortedset | dict | set
  deriving DecidableEq
inductive MF where
  | append | pop | popat | insert | extend | clear | remove | reverse | get | getor | upper | split | join | count | index
  deriving DecidableEq

def smallI (i : Int) : Bool := decide (-(2 ^ 64) < i) && decide (i < 2 ^ 64)

def bI (b : Bool) : Int := if b = true then 1 else 0
def addO : PyData → PyData → Option Out
  | .bool p, .int j => some (.val (.d (.int (bI p + j))))
  | .int i, .bool p => some (.val (.d (.int (i + bI p))))
  | .int i, .int j => some (.val (.d (.int (i + j))))
  | .str x, .str y => if x.length + y.length ≤ lim then some (.val (.d (.str (x ++ y)))) else none
  | .tuple xs, .tuple ys => if xs.length + ys.length ≤ lim then some (.val (.d (.tuple (xs ++ ys)))) else none
  | .list xs, .list ys => if xs.length + ys.length ≤ lim then some (.lst (xs ++ ys)) else none
  | _, _ => none
def binO : BO → PyData → PyData → Option Out
  | .add, a, b => addO a b
  | .sub, .bool p, .int j => some (.val (.d (.int (bI p - j))))
  | .sub, .int i, .bool p => some (.val (.d (.int (i - bI p))))
  | .sub, .int i, .int j => some (.val (.d (.int (i - j))))
  | .mul, .int i, .int j => if smallI i || smallI j then some (.val (.d (.int (i * j)))) else none
  | .mul, .str x, .int n => if (x.length ≤ 4000 ∧ n ≤ 4000 ∨ x.length ≤ 1000000 ∧ n ≤ 16) ∧ -4000 ≤ n then some (.val (.d (.str (Txt.mul x n)))) else none
  | .mul, .list xs, .int n => if xs.length ≤ 1000 ∧ 0 ≤ n ∧ n ≤ 1000 then some (.lst (List.replicate n.toNat xs).flatten) else none
  | .mod, .int i, .int j => if 0 < j then some (.val (.d (.int (i % j)))) else none
  | .fdiv, .int i, .int j => if 0 < j ∧ j < 1073741824 then some (.val (.d (.int (i / j)))) else none
  | .pow, .int i, .int j => if 0 ≤ j ∧ j ≤ 1000 ∧ i.natAbs < 2 ^ 4000 then some (.val (.d (.int (i ^ j.toNat)))) else none
  | _, _, _ => none

/-- lists of unlike lengths -/
def apart : PyData → PyData → Bool
  | .list xs, .list ys => xs.length != ys.length
  | _, _ => false
def eqO (a b : PyData) : Option Bool := match a, b with
  | .str x, .str y => some (decide (x = y))
  | _, _ => if apart a b then some false else if SeqAt.shaped a && SeqAt.shaped b then some (PyData.eqv a b) else none
def atom : PyData → Bool
  | .none | .bool _ | .int _ | .str _ => true
  | _ => false
def keyOf : PyData → Option L2.Key
  | .int i => some (.inl i)
  | .str x => some (.inr x)
  | _ => none
def keysOf : List PyData → Option (List L2.Key)
  | [] => some []
  | x :: xs => match keyOf x, keysOf xs with
    | some k, some ks => some (k :: ks)
    | _, _ => none
/-- a key of a dict: an int, a text, or a tuple of these -/
inductive DK where
  | k (k : L2.Key)
  | t (ks : List L2.Key)
  deriving DecidableEq
def dkOf : PyData → Option DK
  | .int i => some (.k (.inl i))
  | .str x => some (.k (.inr x))
  | .tuple xs => (keysOf xs).map .t
  | _ => none
def dictAt (kvs : List (PyData × PyData)) (k : DK) : Option PyData := match kvs with
  | [] => none
  | (a, v) :: r => if dkOf a = some k then some v else dictAt r k
def sameK : DK → DK → Bool
  | .k _, .k _ => true
  | .t _, .t _ => true
  | _, _ => false
/-- the keys of a dict are of a kind with this one -/
def kindB (kvs : List (PyData × PyData)) (k : DK) : Bool := kvs.all fun p => match dkOf p.1 with
  | some j => sameK j k
  | none => false
def isT : DK → Bool
  | .t _ => true
  | .k _ => false
def dgetO (kvs : List (PyData × PyData)) (key : PyData) : Option (Option PyData) := match dkOf key with
  | some k => if kindB kvs k && (isT k || !kvs.isEmpty) then some (dictAt kvs k) else none
  | none => none
/-- a look for a key alone: an empty dict is of any kind -/
def dgetE (kvs : List (PyData × PyData)) (key : PyData) : Option (Option PyData) := match kvs with
  | [] => (dkOf key).map fun _ => none
  | _ :: _ => dgetO kvs key
def dctPut (kvs : List (PyData × PyData)) (k : DK) (key v : PyData) : List (PyData × PyData) :=
  if kvs.any fun p => decide (dkOf p.1 = some k) then kvs.map fun p => if dkOf p.1 = some k then (p.1, v) else p else kvs ++ [(key, v)]
def dctDrop (kvs : List (PyData × PyData)) (k : DK) : List (PyData × PyData) := kvs.filter fun p => decide (dkOf p.1 ≠ some k)
def putO (kvs : List (PyData × PyData)) (key v : PyData) : Option (List (PyData × PyData)) := match dkOf key with
  | some k => if kindB kvs k && decide (kvs.length < lim) then some (dctPut kvs k key v) else none
  | none => none
def dictOfL : List PyData → List (PyData × PyData) → Option (List (PyData × PyData))
  | [], acc => some acc
  | .tuple [k, v] :: r, acc => (putO acc k v).bind fun acc' => dictOfL r acc'
  | _ :: _, _ => none
def inO (a b : PyData) : Option Bool := match b with
  | .str y => match a with
    | .str x => match x.cps.toList with
      | [c] => some (decide (c ∈ y.cps.toList))
      | _ => none
    | _ => none
  | .list xs => if SeqAt.shaped a && SeqAt.shaped (.list xs) then some (xs.any fun z => PyData.eqv z a) else none
  | .tuple xs => if atom a && xs.all atom then some (xs.any fun z => PyData.eqv z a) else none
  | .dict kvs => (dgetE kvs a).map (·.isSome)
  | _ => none
def ltO : PyData → PyData → Option Bool
  | .int i, .int j => some (decide (i < j))
  | .str x, .str y => some (decide (x.cps.toList < y.cps.toList))
  | _, _ => none
def leO : PyData → PyData → Option Bool
  | .int i, .int j => some (decide (i ≤ j))
  | .str x, .str y => some (!decide (y.cps.toList < x.cps.toList))
  | _, _ => none
def isNone : PyData → Bool
  | .none => true
  | _ => false
def cmpO : CO → PyData → PyData → Option Bool
  | .eq, a, b => eqO a b
  | .ne, a, b => (eqO a b).map (!·)
  | .lt, a, b => ltO a b
  | .le, a, b => leO a b
  | .gt, a, b => ltO b a
  | .ge, a, b => leO b a
  | .isn, a, .none => some (isNone a)
  | .isn, .bool a, .bool b => some (decide (a = b))
  | .nisn, a, .none => some (!isNone a)
  | .nisn, .bool a, .bool b => some (!decide (a = b))
  | .inn, a, b => inO a b
  | .nin, a, b => (inO a b).map (!·)
  | _, _, _ => none
def truthO : PyData → Option Bool
  | .none => some false
  | .bool b => some b
  | .int i => some (i != 0)
  | .str x => if x.length ≤ lim then some (x.length != 0) else none
  | .list xs => some (!xs.isEmpty)
  | .tuple xs => some (!xs.isEmpty)
  | .dict _ => none
def lenO : PyData → Option Nat
  | .str x => if x.length ≤ lim then some x.length else none
  | .list xs => some xs.length
  | .tuple xs => some xs.length
  | _ => none
def idxO : PyData → PyData → Option PyData
  | .list xs, .int i => L2.atI xs i
  | .tuple xs, .int i => L2.atI xs i
  | .str x, .int i => if x.length ≤ lim then (L2.atI x.cps.toList i).map fun c => .str ⟨#[c]⟩ else none
  | .dict kvs, k => (dgetO kvs k).join
  | _, _ => none
def cutL {α : Type} (xs : List α) (lo hi : Option Int) : List α :=
  (xs.drop (HT.sIx xs.length 0 lo)).take (HT.sIx xs.length xs.length hi - HT.sIx xs.length 0 lo)
def sliceO (a : PyData) (lo hi : Option Int) : Option Out := match a with
  | .list xs => some (.lst (cutL xs lo hi))
  | .tuple xs => some (.val (.d (.tuple (cutL xs lo hi))))
  | .str x => if x.length ≤ lim then some (.val (.d (.str ⟨(cutL x.cps.toList lo hi).toArray⟩))) else none
  | _ => none
def revO : PyData → Option Out
  | .list xs => some (.lst xs.reverse)
  | .tuple xs => some (.val (.d (.tuple xs.reverse)))
  | _ => none
/-- each once, the last of likes -/
def uniq {α : Type} [DecidableEq α] : List α → List α
  | [] => []
  | x :: xs => if x ∈ xs then uniq xs else x :: uniq xs
def tksOf : List PyData → Option (List (List L2.Key))
  | [] => some []
  | .tuple xs :: r => match keysOf xs, tksOf r with
    | some k, some ks => some (k :: ks)
    | _, _ => none
  | _ :: _ => none
/-- len(set(xs)) -/
def lensO : PyData → Option Nat
  | .list xs => if xs.length < 307 then (tksOf xs).map fun ks => (uniq ks).length else none
  | _ => none
def isaO : PyData → TY → Bool
  | .bool _, .bool => true
  | .bool _, .int => true
  | .int _, .int => true
  | .str _, .str => true
  | .list _, .list => true
  | .tuple _, .tuple => true
  | .dict _, .dict => true
  | _, _ => false
def asBools : List PyData → Option (List Bool)
  | [] => some []
  | .bool b :: r => (asBools r).map (b :: ·)
  | _ :: _ => none
def asInts : List PyData → Option (List Int)
  | [] => some []
  | .int b :: r => (asInts r).map (b :: ·)
  | _ :: _ => none
def asStrs : List PyData → Option (List Str)
  | [] => some []
  | .str b :: r => (asStrs r).map (b :: ·)
  | _ :: _ => none
/-- texts in order -/
def insS (x : Str) : List Str → List Str
  | [] => [x]
  | y :: ys => if y.cps.toList < x.cps.toList then y :: insS x ys else x :: y :: ys
def sortS : List Str → List Str
  | [] => []
  | x :: xs => insS x (sortS xs)
/-! data in order -/
/-- alike, none of them None -/
def alikeL (xs : List PyData) : Bool := xs.all fun x => !isNone x && xs.all fun y => PySem.W.alike x y
/-- all are tuples that hold a thing, or none is a tuple -/
def sortB (xs : List PyData) : Bool := (xs.all fun x => match x with
  | .tuple (_ :: _) => true
  | _ => false) || xs.all fun x => match x with
  | .tuple _ => false
  | _ => true
def sortD (xs : List PyData) : List PyData := xs.mergeSort fun a b => !PySem.W.dataLt b a
def bltO : BF → List PyData → Option Out
  | .all, [.list xs] => (asBools xs).map fun bs => .val (.d (.bool (bs.all id)))
  | .any, [.list xs] => (asBools xs).map fun bs => .val (.d (.bool (bs.any id)))
  | .max2, [.int i, .int j] => some (.val (.d (.int (if j > i then j else i))))
  | .max2, [.str x, .str y] => some (.val (.d (.str (if x.cps.toList < y.cps.toList then y else x))))
  | .min2, [.str x, .str y] => some (.val (.d (.str (if y.cps.toList < x.cps.toList then y else x))))
  | .min2, [.int i, .int j] => some (.val (.d (.int (if j < i then j else i))))
  | .repr, [a] => if a.showable && decide (a.shown.length ≤ limR) && decide (a.depth ≤ 64) then some (.val (.d (.str a.shown))) else none
  | .str, [.int i] => if i.natAbs.log2 < 1920 then some (.val (.d (.str (toString i)))) else none
  | .str, [.bool b] => some (.val (.d (.str (if b then "True" else "False"))))
  | .int, [.int i] => some (.val (.d (.int i)))
  | .int, [.bool k] => some (.val (.d (.int (if k then 1 else 0))))
  | .sorted, [.list xs] => if xs.length < 64 then (asStrs xs).map fun zs => .lst ((sortS zs).map .str) else none
  | .sortedR, [.list xs] => if alikeL xs && sortB xs && decide (PyData.depthAll xs ≤ 64) && decide (xs.length ≤ lim) then some (.lst (sortD xs)) else none
  | .minl, [.list (x :: xs)] => if alikeL (x :: xs) && decide (PyData.depthAll (x :: xs) ≤ 64) then some (.val (.d (PySem.W.minD x xs))) else none
  | .maxl, [.list (x :: xs)] => if alikeL (x :: xs) && decide (PyData.depthAll (x :: xs) ≤ 64) then some (.val (.d (PySem.W.maxD x xs))) else none
  | .dict, [.list xs] => (dictOfL xs []).map .dct
  | .list, [.list xs] => some (.lst xs)
  | .list, [.tuple xs] => some (.lst xs)
  | .tuple, [.list xs] => some (.val (.d (.tuple xs)))
  | .tuple, [.tuple xs] => some (.val (.d (.tuple xs)))
  | _, _ => none

/-- methods of texts -/
def smtO : MF → Str → List PyData → Option Out
  | .upper, x, [] => if x.length ≤ lim then some (.val (.d (.str (Txt.upper x)))) else none
  | .join, x, [.list ys] => (asStrs ys).bind fun zs => if (zs.map (·.length)).sum + zs.length * x.length ≤ lim then some (.val (.d (.str (Txt.join x zs)))) else none
  | .join, x, [.tuple ys] => (asStrs ys).bind fun zs => if (zs.map (·.length)).sum + zs.length * x.length ≤ lim then some (.val (.d (.str (Txt.join x zs)))) else none
  | .split, x, [] => if x.length ≤ lim then some (.lst ((Txt.words x).map .str)) else none
  | .split, x, [.str y] => if y.length ≠ 0 ∧ x.length ≤ lim then some (.lst ((Txt.split x y).map .str)) else none
  | _, _, _ => none

/-! ## syntax -/
mutual
inductive Tg where
  | nm (i : Nat)
  | tp (ts : Tgs)
inductive Tgs where
  | nil
  | cons (t : Tg) (ts : Tgs)
end
mutual
inductive Ex where
  | var (i : Nat)
  | cst (c : PyData)
  | glb (x : Str) (c : PyData)
  | tup (es : Exs)
  | dis (es : Exs)
  | dcs (kvs : List (PyData × PyData))
  | dgt (a k : Ex)
  | dgt2 (a k d : Ex)
  | dcomp (own : List Nat) (t : Tg) (it : Ir) (c : Ex) (k e : Ex)
  | sset (a : Ex)
  | dpop (a k d : Ex)
  | mut (a : Ex)
  | bin (o : BO) (a b : Ex)
  | neg (a : Ex)
  | not (a : Ex)
  | and (a b : Ex)
  | or (a b : Ex)
  | cmp (o : CO) (a b : Ex)
  | chn (o o' : CO) (a b c : Ex)
  | ite (t a b : Ex)
  | idx (a i : Ex)
  | len (a : Ex)
  | lens (a : Ex)
  | sl (a lo hi : Ex)
  | rev (a : Ex)
  | comp (own : List Nat) (t : Tg) (it : Ir) (c : Ex) (e : Ex)
  | call (f : Nat) (es : Exs)
  | blt (f : BF) (es : Exs)
  | mth (f : MF) (o : Ex) (es : Exs)
  | smt (f : MF) (o : Ex) (es : Exs)
  | isa (a : Ex) (ts : List TY)
  | fz (a : Ex)
  | inG (a : Ex) (n : Str) (xs : List Str)
  | calld (f : Nat) (es : Exs) (ds : List PyData)
inductive Exs where
  | nil
  | cons (e : Ex) (es : Exs)
inductive Ir where
  | x (a : Ex)
  | rng (a : Ex)
  | rng2 (a b : Ex)
  | keys (i : Nat)
  | items (i : Nat)
  | enum (a : Ex)
  | zip (a b : Ex)
end
mutual
inductive Sm where
  | asg (t : Tg) (e : Ex)
  | par (i j : Nat) (a b : Ex)
  | par3 (i j k : Nat) (a b c : Ex)
  | setI (o i e : Ex)
  | aug (i : Nat) (o : BO) (e : Ex)
  | expr (e : Ex)
  | ret (e : Ex)
  | retN
  | ite (c : Ex) (a b : Sms)
  | loop (t : Tg) (it : Ir) (b : Sms)
  | whl (c : Ex) (b : Sms)
  | pass
  | brk
  | cnt
  | raise (c : Nat) (x : Str)
  | star (i j : Nat) (e : Ex)
  | frz (i : Nat)
inductive Sms where
  | nil
  | cons (s : Sm) (ss : Sms)
end

/-! ## the interpreter -/
mutual
def bindT : Tg → PyData → Env → Option Env
  | .nm i, x, E => some (E.set i (some (.d x)))
  | .tp ts, .tuple xs, E => bindTs ts xs E
  | .tp ts, .list xs, E => bindTs ts xs E
  | .tp _, _, _ => none
def bindTs : Tgs → List PyData → Env → Option Env
  | .nil, [], E => some E
  | .cons t ts, x :: xs, E => (bindT t x E).bind fun E' => bindTs ts xs E'
  | _, _, _ => none
end
def wipeE (E : Env) : List Nat → Env
  | [] => E
  | v :: vs => (wipeE E vs).set v none
def wipes (vs : List Nat) : Tg → Bool
  | .nm i => vs.contains i
  | .tp ts => wipess ts
where wipess : Tgs → Bool
  | .nil => true
  | .cons t ts => wipes vs t && wipess ts

def comprL (bnd : PyData → Option Env) (c : Env → M Bool) (e : Env → M PyData) : List PyData → List PyData → M (List PyData)
  | [], acc => M.pure acc
  | x :: xs, acc => M.bind (M.lift (bnd x)) fun E => M.bind (c E) fun b =>
    if b then M.bind (e E) fun y => if acc.length < lim then comprL bnd c e xs (acc ++ [y]) else fun _ => .stuck
    else comprL bnd c e xs acc
def dcomprL (bnd : PyData → Option Env) (c : Env → M Bool) (k e : Env → M PyData) : List PyData → List (PyData × PyData) → M (List (PyData × PyData))
  | [], acc => M.pure acc
  | x :: xs, acc => M.bind (M.lift (bnd x)) fun E => M.bind (c E) fun b =>
    if b then M.bind (k E) fun y => M.bind (e E) fun z => M.bind (M.lift (putO acc y z)) fun acc' => dcomprL bnd c k e xs acc'
    else dcomprL bnd c k e xs acc
/-- an exception does not leave a comprehension -/
def noExc {α : Type} (m : M α) : M α := fun s => match m s with
  | .ok a s' => .ok a s'
  | _ => .stuck
inductive Fl where
  | nx | bk | ct
  | rt (o : Out)
def loopL (bnd : PyData → Env → Option Env) (b : Env → M (Fl × Env)) : List PyData → Env → M (Fl × Env)
  | [], E => M.pure (.nx, E)
  | x :: xs, E => M.bind (M.lift (bnd x E)) fun E1 => M.bind (b E1) fun r => match r.1 with
    | .nx => loopL bnd b xs r.2
    | .ct => loopL bnd b xs r.2
    | .bk => M.pure (.nx, r.2)
    | .rt o => M.pure (.rt o, r.2)
def whileL (c : Env → M Bool) (b : Env → M (Fl × Env)) : Nat → Env → M (Fl × Env)
  | 0, _ => fun _ => .stuck
  | n + 1, E => M.bind (c E) fun k => if k then M.bind (b E) fun r => match r.1 with
      | .nx => whileL c b n r.2
      | .ct => whileL c b n r.2
      | .bk => M.pure (.nx, r.2)
      | .rt o => M.pure (.rt o, r.2)
    else M.pure (.nx, E)

abbrev CallT := Nat → List Vl → Store → Res Out
def callIn : List Vl → List Nat → Option (List Vl × List Nat)
  | [], ns => some ([], ns)
  | .d x :: r, ns => (callIn r ns).map fun p => (.d x :: p.1, p.2)
  | .scr zs :: r, ns => (callIn r ns).map fun p => (.scr zs :: p.1, p.2)
  | .ref n :: r, ns => if n ∈ ns then none else (callIn r (ns ++ [n])).map fun p => (.ref ns.length :: p.1, p.2)
def cellsAt (S : Store) : List Nat → Option Store
  | [] => some []
  | n :: ns => match cellAt S n, cellsAt S ns with
    | some c, some cs => some (some c :: cs)
    | _, _ => none
def putBack (S : Store) : List Nat → Store → Store
  | n :: ns, c :: cs => putBack (S.set n c) ns cs
  | _, _ => S
def outBack (ns : List Nat) : Out → Option Out
  | .val (.ref j) => (ns[j]?).map fun n => .val (.ref n)
  | o => some o
def callM (C : CallT) (f : Nat) (vs : List Vl) : M Out := fun S => match callIn vs [] with
  | none => .stuck
  | some p => match cellsAt S p.2 with
    | none => .stuck
    | some cs => match C f p.1 cs with
      | .ok o cs' => match outBack p.2 o with
        | some o' => .ok o' (putBack S p.2 cs')
        | none => .stuck
      | .exc c cs' => .exc c (putBack S p.2 cs')
      | .stuck => .stuck
def alloc (o : Out) : M Out := fun S => match o with
  | .lst xs => .ok (.val (.ref S.length)) (S ++ [some (.lst xs)])
  | .dct kvs => .ok (.val (.ref S.length)) (S ++ [some (.dct kvs)])
  | .val _ => .stuck
mutual
def flat : PyData → Bool
  | .none | .bool _ | .int _ | .str _ => true
  | .tuple xs => flats xs
  | .list _ | .dict _ => false
def flats : List PyData → Bool
  | [] => true
  | x :: xs => flat x && flats xs
end
def freezeV (S : Store) : Vl → Option Vl
  | .scr ns => some (.scr ns)
  | v => (toD S v).map .d
def freezeE (S : Store) (E : Env) : Env := E.map fun o => o.bind (freezeV S)
def flatO (S : Store) : Out → Option Out
  | .val (.d x) => if flat x then some (.val (.d x)) else none
  | .val (.ref n) => match cellAt S n with
    | some (.lst xs) => if flats xs then some (.lst xs) else none
    | some (.dct kvs) => if flats (kvs.map (·.1)) && flats (kvs.map (·.2)) then some (.dct kvs) else none
    | none => none
  | .val (.scr _) => none
  | .lst xs => if flats xs then some (.lst xs) else none
  | .dct kvs => if flats (kvs.map (·.1)) && flats (kvs.map (·.2)) then some (.dct kvs) else none
def popAt {α : Type} (xs : List α) (i : Int) : Option (α × List α) :=
  (L2.ixN xs.length i).bind fun j => (xs[j]?).map fun x => (x, xs.eraseIdx j)
def mthM (f : MF) (v : Vl) (vs : List Vl) : M Out := fun S => match v with
  | .ref n => match cellAt S n with
    | some (.lst xs) => match f, vs with
      | .append, [.d x] => if xs.length < lim then .ok (.val (.d .none)) (S.set n (some (.lst (xs ++ [x])))) else .stuck
      | .pop, [] => match popAt xs (-1) with
        | some p => .ok (.val (.d p.1)) (S.set n (some (.lst p.2)))
        | none => .stuck
      | .popat, [.d (.int i)] => match popAt xs i with
        | some p => .ok (.val (.d p.1)) (S.set n (some (.lst p.2)))
        | none => .stuck
      | .extend, [.d (.list ys)] => if xs.length + ys.length ≤ lim then .ok (.val (.d .none)) (S.set n (some (.lst (xs ++ ys)))) else .stuck
      | .insert, [.d (.int i), .d x] => if 0 ≤ i ∧ i ≤ xs.length ∧ xs.length < lim then .ok (.val (.d .none)) (S.set n (some (.lst (xs.take i.toNat ++ x :: xs.drop i.toNat)))) else .stuck
      | .clear, [] => .ok (.val (.d .none)) (S.set n (some (.lst [])))
      | .reverse, [] => .ok (.val (.d .none)) (S.set n (some (.lst xs.reverse)))
      | _, _ => .stuck
    | some (.dct kvs) => .stuck
    | none => .stuck
  | _ => .stuck
/-- d.pop(k, w) -/
def popDM (v : Vl) (k w : PyData) : M Out := fun S => match v with
  | .ref n => match cellAt S n with
    | some (.dct kvs) => match dkOf k with
      | some dk => if kindB kvs dk && isT dk then match dictAt kvs dk with
          | some x => .ok (.val (.d x)) (S.set n (some (.dct (dctDrop kvs dk))))
          | none => .ok (.val (.d w)) S
        else .stuck
      | none => .stuck
    | _ => .stuck
  | _ => .stuck
/-- a list of ours -/
def preM (v : Vl) : M Unit := fun S => match v with
  | .ref n => match cellAt S n with
    | some (.lst _) => .ok () S
    | _ => .stuck
  | _ => .stuck
def setM (v : Vl) (i e : PyData) : M Unit := fun S => match v with
  | .ref n => match cellAt S n with
    | some (.lst xs) => match i with
      | .int k => match L2.ixN xs.length k with
        | some j => .ok () (S.set n (some (.lst (xs.set j e))))
        | none => .stuck
      | _ => .stuck
    | some (.dct kvs) => match putO kvs i e with
      | some kvs' => .ok () (S.set n (some (.dct kvs')))
      | none => .stuck
    | none => .stuck
  | _ => .stuck
def toDM (v : Vl) : M PyData := fun S => match toD S v with
  | some x => .ok x S
  | none => .stuck
def toDwM (v : Vl) : M PyData := fun S => match toDw S v with
  | some x => .ok x S
  | none => .stuck
def toDsM : List Vl → M (List PyData)
  | [] => M.pure []
  | v :: vs => M.bind (toDM v) fun x => M.bind (toDsM vs) fun xs => M.pure (x :: xs)
def allD : List Vl → Option (List PyData)
  | [] => some []
  | .d x :: r => (allD r).map (x :: ·)
  | _ :: _ => none
/-- its content as it stands -/
def cont (m : M Out) : M PyData := M.bind m fun o => toDM (settle o)
/-- a dict, now -/
def preDM (v : Vl) : M Unit := fun S => match toD S v with
  | some (.dict _) => .ok () S
  | _ => .stuck
def getO (d k w : PyData) : Option Out := match d with
  | .dict kvs => (dgetO kvs k).map fun o => .val (.d (o.getD w))
  | _ => none
/-- sorted(set(xs)) of texts -/
def ssetO : PyData → Option Out
  | .list xs => if xs.length < 64 then (asStrs xs).map fun zs => .lst ((sortS (uniq zs)).map .str) else none
  | _ => none
def partO : PyData → Option (Option Int)
  | .int i => some (some i)
  | _ => none
def isAbs : Ex → Bool
  | .cst .none => true
  | _ => false
def optI (ab : Bool) (m : M PyData) : M (Option Int) := if ab then M.pure none else M.bind m fun x => M.lift (partO x)
def rngL (lo hi : Int) : Option (List PyData) :=
  if -1000000000 ≤ lo ∧ lo ≤ 1000000000 ∧ -1000000000 ≤ hi ∧ hi ≤ 1000000000 then some ((List.range (hi - lo).toNat).map fun (i : Nat) => PyData.int (lo + (i : Int))) else none
def itemsO : PyData → Option (List PyData)
  | .list xs => some xs
  | .tuple xs => some xs
  | .str x => some (x.cps.toList.map fun c => .str ⟨#[c]⟩)
  | _ => none
def enumL (n : Nat) : List PyData → List PyData
  | [] => []
  | x :: xs => .tuple [.int n, x] :: enumL (n + 1) xs
mutual
def ev (C : CallT) : Ex → Env → M Out
  | .var i, E => M.lift (((E[i]?).bind id).map .val)
  | .cst c, _ => M.pure (.val (.d c))
  | .glb _ c, _ => M.pure (.val (.d c))
  | .tup es, E => M.bind (evs C es E) fun vs => M.bind (M.lift (allD vs)) fun ds => if ds.length ≤ lim then M.pure (.val (.d (.tuple ds))) else fun _ => .stuck
  | .dis es, E => M.bind (evs C es E) fun vs => M.bind (M.lift (allD vs)) fun ds => if ds.length ≤ lim then M.pure (.lst ds) else fun _ => .stuck
  | .dcs kvs, _ => if kvs.length ≤ 15 then M.pure (.dct kvs) else fun _ => .stuck
  | .dgt a k, E => M.bind (val (ev C a E)) fun v => M.bind (preDM v) fun _ => M.bind (datum (ev C k E)) fun x => M.bind (toDM v) fun d => M.lift (getO d x .none)
  | .dgt2 a k d, E => M.bind (val (ev C a E)) fun v => M.bind (preDM v) fun _ => M.bind (datum (ev C k E)) fun x => M.bind (datum (ev C d E)) fun y => M.bind (toDM v) fun d => M.lift (getO d x y)
  | .dcomp own t it c k e, E => M.bind (evI C it E) fun xs =>
    if wipes own t then M.bind (noExc (dcomprL (fun x => bindT t x (wipeE E own)) (fun E => evT C c E) (fun E => datum (ev C k E)) (fun E => datum (ev C e E)) xs [])) fun ys => M.pure (.dct ys) else fun _ => .stuck
  | .dpop a k d, E => M.bind (val (ev C a E)) fun v => M.bind (preDM v) fun _ => M.bind (datum (ev C k E)) fun x => M.bind (datum (ev C d E)) fun y => popDM v x y
  | .sset a, E => M.bind (val (ev C a E)) fun v => M.bind (toDM v) fun x => M.lift (ssetO x)
  | .mut a, E => M.bind (ev C a E) alloc
  | .bin o a b, E => M.bind (val (ev C a E)) fun v => M.bind (val (ev C b E)) fun w => M.bind (toDM v) fun x => M.bind (toDM w) fun y => M.lift (binO o x y)
  | .neg a, E => M.bind (datum (ev C a E)) fun x => match x with
    | .int i => M.pure (.val (.d (.int (-i))))
    | _ => fun _ => .stuck
  | .not a, E => M.bind (datum (ev C a E)) fun x => match x with
    | .bool b => M.pure (.val (.d (.bool (!b))))
    | _ => fun _ => .stuck
  | .and a b, E => M.bind (datum (ev C a E)) fun x => match x with
    | .bool true => ev C b E
    | .bool false => M.pure (.val (.d (.bool false)))
    | _ => fun _ => .stuck
  | .or a b, E => M.bind (datum (ev C a E)) fun x => match x with
    | .bool false => ev C b E
    | .bool true => M.pure (.val (.d (.bool true)))
    | _ => fun _ => .stuck
  | .cmp o a b, E => M.bind (val (ev C a E)) fun v => M.bind (val (ev C b E)) fun w => M.bind (toDM v) fun x => M.bind (toDM w) fun y => M.bind (M.lift (cmpO o x y)) fun k => M.pure (.val (.d (.bool k)))
  | .chn o o' a b c, E => M.bind (datum (ev C a E)) fun x => M.bind (datum (ev C b E)) fun y => M.bind (M.lift (cmpO o x y)) fun k =>
    if k then M.bind (datum (ev C c E)) fun z => M.bind (M.lift (cmpO o' y z)) fun k' => M.pure (.val (.d (.bool k'))) else M.pure (.val (.d (.bool false)))
  | .ite t a b, E => M.bind (evT C t E) fun k => if k then ev C a E else ev C b E
  | .idx a i, E => M.bind (val (ev C a E)) fun v => M.bind (datum (ev C i E)) fun y => M.bind (toDwM v) fun x => M.bind (M.lift (idxO x y)) fun z => M.pure (.val (.d z))
  | .len a, E => M.bind (val (ev C a E)) fun v => M.bind (toDwM v) fun x => M.bind (M.lift (lenO x)) fun n => M.pure (.val (.d (.int n)))
  | .lens a, E => M.bind (val (ev C a E)) fun v => M.bind (toDM v) fun x => M.bind (M.lift (lensO x)) fun n => M.pure (.val (.d (.int n)))
  | .sl a lo hi, E => M.bind (val (ev C a E)) fun v => M.bind (optI (isAbs lo) (datum (ev C lo E))) fun l => M.bind (optI (isAbs hi) (datum (ev C hi E))) fun h => M.bind (toDM v) fun x => M.lift (sliceO x l h)
  | .rev a, E => M.bind (val (ev C a E)) fun v => M.bind (toDM v) fun x => M.lift (revO x)
  | .comp own t it c e, E => M.bind (evI C it E) fun xs =>
    if wipes own t then M.bind (noExc (comprL (fun x => bindT t x (wipeE E own)) (fun E => evT C c E) (fun E => datum (ev C e E)) xs [])) fun ys => M.pure (.lst ys) else fun _ => .stuck
  | .call f es, E => M.bind (evs C es E) fun vs => callM C f vs
  | .blt f es, E => M.bind (evs C es E) fun vs => M.bind (toDsM vs) fun ds => M.lift (bltO f ds)
  | .mth f o es, E => M.bind (val (ev C o E)) fun v => M.bind (preM v) fun _ => M.bind (evs C es E) fun vs => mthM f v vs
  | .smt f o es, E => M.bind (datum (ev C o E)) fun x => match x with
    | .str z => M.bind (evs C es E) fun vs => M.bind (toDsM vs) fun ds => M.lift (smtO f z ds)
    | _ => fun _ => .stuck
  | .isa a ts, E => M.bind (cont (ev C a E)) fun x => M.pure (.val (.d (.bool (ts.any (isaO x)))))
  | .fz a, E => fun S => match ev C a (freezeE S E) [] with
    | .ok o S' => match flatO S' o with
      | some o' => .ok o' S
      | none => .stuck
    | .exc c _ => .exc c S
    | .stuck => .stuck
  | .inG a _ xs, E => M.bind (datum (ev C a E)) fun x => match x with
    | .str z => M.pure (.val (.d (.bool (xs.any fun y => decide (y = z)))))
    | _ => fun _ => .stuck
  | .calld f es ds, E => M.bind (evs C es E) fun vs => callM C f (vs ++ ds.map .d)
def evT (C : CallT) : Ex → Env → M Bool
  | .not a, E => M.bind (evT C a E) fun b => M.pure (!b)
  | .and a b, E => M.bind (evT C a E) fun k => if k then evT C b E else M.pure false
  | .or a b, E => M.bind (evT C a E) fun k => if k then M.pure true else evT C b E
  | .var i, E => M.bind (M.lift ((E[i]?).bind id)) fun v => M.bind (toDM v) fun x => M.lift (truthO x)
  | .cst c, _ => M.lift (truthO c)
  | .cmp o a b, E => M.bind (val (ev C a E)) fun v => M.bind (val (ev C b E)) fun w => M.bind (toDM v) fun x => M.bind (toDM w) fun y => M.lift (cmpO o x y)
  | .chn o o' a b c, E => M.bind (datum (ev C a E)) fun x => M.bind (datum (ev C b E)) fun y => M.bind (M.lift (cmpO o x y)) fun k =>
    if k then M.bind (datum (ev C c E)) fun z => M.lift (cmpO o' y z) else M.pure false
  | .call f es, E => M.bind (evs C es E) fun vs => M.bind (callM C f vs) fun o => M.bind (toDM (settle o)) fun x => M.lift (truthO x)
  | .blt f es, E => M.bind (evs C es E) fun vs => M.bind (toDsM vs) fun ds => M.bind (M.lift (bltO f ds)) fun o => M.bind (toDM (settle o)) fun x => M.lift (truthO x)
  | .isa a ts, E => M.bind (cont (ev C a E)) fun x => M.pure (ts.any (isaO x))
  | .inG a _ xs, E => M.bind (datum (ev C a E)) fun x => match x with
    | .str z => M.pure (xs.any fun y => decide (y = z))
    | _ => fun _ => .stuck
  | _, _ => fun _ => .stuck
def evs (C : CallT) : Exs → Env → M (List Vl)
  | .nil, _ => M.pure []
  | .cons e es, E => M.bind (val (ev C e E)) fun v => M.bind (evs C es E) fun vs => M.pure (v :: vs)
def evI (C : CallT) : Ir → Env → M (List PyData)
  | .x a, E => M.bind (datum (ev C a E)) fun x => M.lift (itemsO x)
  | .rng a, E => M.bind (datum (ev C a E)) fun x => match x with
    | .int i => M.lift (rngL 0 i)
    | _ => fun _ => .stuck
  | .rng2 a b, E => M.bind (datum (ev C a E)) fun x => M.bind (datum (ev C b E)) fun y => match x, y with
    | .int i, .int j => M.lift (rngL i j)
    | _, _ => fun _ => .stuck
  | .keys i, E => match (E[i]?).bind id with
    | some (.d (.dict kvs)) => M.pure (kvs.map fun kv => kv.1)
    | _ => fun _ => .stuck
  | .items i, E => match (E[i]?).bind id with
    | some (.d (.dict kvs)) => M.pure (kvs.map fun kv => .tuple [kv.1, kv.2])
    | _ => fun _ => .stuck
  | .enum a, E => M.bind (datum (ev C a E)) fun x => match x with
    | .list xs => M.pure (enumL 0 xs)
    | _ => fun _ => .stuck
  | .zip a b, E => M.bind (datum (ev C a E)) fun x => M.bind (datum (ev C b E)) fun y => match x, y with
    | .list xs, .list ys => M.pure ((xs.zip ys).map fun p => .tuple [p.1, p.2])
    | _, _ => fun _ => .stuck
end
def bindO (t : Tg) (o : Out) (E : Env) : Option Env := match t with
  | .nm i => some (E.set i (some (settle o)))
  | .tp ts => match settle o with
    | .d (.tuple xs) => bindTs ts xs E
    | .d (.list xs) => bindTs ts xs E
    | _ => none
mutual
def exec (C : CallT) : Sm → Env → M (Fl × Env)
  | .asg t e, E => M.bind (ev C e E) fun o => M.bind (M.lift (bindO t o E)) fun E' => M.pure (.nx, E')
  | .par i j a b, E => M.bind (evs C (.cons a (.cons b .nil)) E) fun vs => match vs with
    | [v, w] => M.pure (.nx, (E.set i (some v)).set j (some w))
    | _ => fun _ => .stuck
  | .par3 i j k a b c, E => M.bind (evs C (.cons a (.cons b (.cons c .nil))) E) fun vs => match vs with
    | [u, v, w] => M.pure (.nx, ((E.set i (some u)).set j (some v)).set k (some w))
    | _ => fun _ => .stuck
  | .setI o i e, E => M.bind (datum (ev C e E)) fun z => M.bind (val (ev C o E)) fun v => M.bind (datum (ev C i E)) fun k => M.bind (setM v k z) fun _ => M.pure (.nx, E)
  | .aug _ _ _, _ => fun _ => .stuck
  | .expr e, E => M.bind (ev C e E) fun _ => M.pure (.nx, E)
  | .ret e, E => M.bind (ev C e E) fun o => M.pure (.rt o, E)
  | .retN, E => M.pure (.rt (.val (.d .none)), E)
  | .ite c a b, E => M.bind (evT C c E) fun k => if k then execs C a E else execs C b E
  | .loop t it b, E => M.bind (evI C it E) fun xs => loopL (fun x E => bindT t x E) (fun E => execs C b E) xs E
  | .whl c b, E => whileL (fun E => evT C c E) (fun E => execs C b E) lim E
  | .pass, E => M.pure (.nx, E)
  | .brk, E => M.pure (.bk, E)
  | .cnt, E => M.pure (.ct, E)
  | .raise _ _, _ => fun _ => .stuck
  | .star i j e, E => M.bind (datum (ev C e E)) fun x => match x with
    | .tuple (y :: ys) => M.pure (.nx, (E.set i (some (.d y))).set j (some (.d (.list ys))))
    | _ => fun _ => .stuck
  | .frz i, E => fun S => match (E[i]?).bind id with
    | some (.ref n) => match toD S (.ref n) with
      | some x => .ok (.nx, E.set i (some (.d x))) (S.set n none)
      | none => .stuck
    | _ => .stuck
def execs (C : CallT) : Sms → Env → M (Fl × Env)
  | .nil, E => M.pure (.nx, E)
  | .cons s ss, E => M.bind (exec C s E) fun r => match r.1 with
    | .nx => execs C ss r.2
    | _ => M.pure r
end
/-- a def: its parameters, its slots, its body -/
structure Fn where
  np : Nat
  ns : Nat
  body : Sms
def exitO (m : Nat) (S : Store) : Out → Option Out
  | .val (.ref n) => if n < m then some (.val (.ref n)) else match cellAt S n with
    | some (.lst xs) => some (.lst xs)
    | some (.dct kvs) => some (.dct kvs)
    | none => none
  | o => some o
def startE (fn : Fn) (args : List Vl) : Env := args.map some ++ List.replicate (fn.ns - fn.np) none
def leave (m : Nat) (o : Out) (S : Store) : Res Out := match exitO m S o with
  | some o' => .ok o' (S.take m)
  | none => .stuck
def run (P : List Fn) : Nat → CallT
  | 0, _, _, _ => .stuck
  | k + 1, f, args, cs => match P[f]? with
    | none => .stuck
    | some fn => if args.length = fn.np then match execs (run P k) fn.body (startE fn args) cs with
      | .ok r S => match r.1 with
        | .nx => leave cs.length (.val (.d .none)) S
        | .rt o => leave cs.length o S
        | _ => .stuck
      | .exc c S => .exc c (S.take cs.length)
      | .stuck => .stuck
    else .stuck
end Lf

set_option Elab.async false
set_option linter.all false
set_option maxRecDepth 100000
set_option maxHeartbeats 4000000
/-! Texts in order. -/
namespace Lf
open PySem PySem.Spec PyProof.Rows L2

theorem le_trans_l {a b c : List Nat} (h1 : ¬ b < a) (h2 : ¬ c < b) : ¬ c < a := List.not_lt.mpr (List.le_trans (List.not_lt.mp h1) (List.not_lt.mp h2))
theorem le_anti_l {a b : List Nat} (h1 : ¬ b < a) (h2 : ¬ a < b) : a = b := List.le_antisymm (List.not_lt.mp h1) (List.not_lt.mp h2)
theorem str_ext {a b : Str} (h : a.cps.toList = b.cps.toList) : a = b := TL.ext_tl h
theorem insS_perm (x : Str) : ∀ ys, (insS x ys).Perm (x :: ys)
  | [] => .refl _
  | y :: ys => by
    unfold insS
    split
    · exact ((insS_perm x ys).cons y).trans (.swap x y ys)
    · exact .refl _
theorem sortS_perm : ∀ xs, (sortS xs).Perm xs
  | [] => .refl _
  | x :: xs => (insS_perm x (sortS xs)).trans ((sortS_perm xs).cons x)
abbrev leP (a b : Str) : Prop := ¬ b.cps.toList < a.cps.toList
theorem insS_pw (x : Str) : ∀ {ys}, ys.Pairwise leP → (insS x ys).Pairwise leP
  | [], _ => List.pairwise_singleton _ _
  | y :: ys, h => by
    obtain ⟨h1, h2⟩ := List.pairwise_cons.mp h
    unfold insS
    split
    · rename_i c
      refine List.pairwise_cons.mpr ⟨fun z hz => ?_, insS_pw x h2⟩
      rcases List.mem_cons.mp ((insS_perm x ys).mem_iff.mp hz) with rfl | hz
      · exact fun q => absurd (le_anti_l (fun r => absurd (List.lt_trans q r) (List.lt_irrefl _)) (fun r => absurd c fun _ => absurd (List.lt_trans q c) (List.lt_irrefl _))) (fun e => absurd (e ▸ q) (List.lt_irrefl _))
      · exact h1 z hz
    · rename_i c
      refine List.pairwise_cons.mpr ⟨fun z hz => ?_, h⟩
      rcases List.mem_cons.mp hz with rfl | hz
      · exact c
      · exact le_trans_l c (h1 z hz)
theorem sortS_pw : ∀ xs, (sortS xs).Pairwise leP
  | [] => .nil
  | x :: xs => insS_pw x (sortS_pw xs)
theorem rising_pw : ∀ (xs : List Str) (p : Str), risingS p xs = true → (p :: xs).Pairwise leP
  | [], p, _ => List.pairwise_singleton _ _
  | x :: xs, p, h => by
    have h : (!ltCps x.cps.toList p.cps.toList && risingS x xs) = true := h
    rw [Bool.and_eq_true, ltCps_eq] at h
    have px : leP p x := by simpa using h.1
    have ih := rising_pw xs x h.2
    refine List.pairwise_cons.mpr ⟨fun z hz => ?_, ih⟩
    rcases List.mem_cons.mp hz with rfl | hz
    · exact px
    · exact le_trans_l px ((List.pairwise_cons.mp ih).1 z hz)
theorem sorted_one {xs ys : List Str} (p : ys.Perm xs) (h : sortedS ys = true) : ys = sortS xs := by
  have pw : ys.Pairwise leP := by
    cases ys with
    | nil => exact .nil
    | cons y ys => exact rising_pw ys y h
  exact List.Perm.eq_of_pairwise (fun a b _ _ h1 h2 => str_ext (le_anti_l h1 h2)) pw (sortS_pw xs) (p.trans (sortS_perm xs).symm)
end Lf

set_option Elab.async false
set_option linter.all false
set_option maxRecDepth 100000
/-! How the small language's values lie in the abstract heap. -/
namespace Lf
open PySem L2

/-- where the cells lie; hid: cells of callers, that are not to be met -/
structure Adr where
  at_ : List (Option Addr)
  hid : Addr → Prop
def Adr.av (ι : Adr) (a : Addr) : Prop := some a ∈ ι.at_ ∨ ι.hid a
def Adr.nil : Adr := ⟨[], fun _ => False⟩
def Adr.push (ι : Adr) (p : Addr) : Adr := ⟨ι.at_ ++ [some p], ι.hid⟩
theorem Adr.nil_av (a : Addr) : ¬ Adr.nil.av a := fun h => h.elim (fun z => absurd z (by simp [Adr.nil])) fun z => z
def noHp : Hp := fun _ => none
def FzL (K : PySem.W.Frag) (ι : Adr) (H : Hp) (a : Addr) (ys : List V) : Prop := (Rd H a (.lst ys) ∧ ¬ ι.av a) ∨ SqL K noHp a ys
def FzT (K : PySem.W.Frag) (ι : Adr) (H : Hp) (a : Addr) (ys : List V) : Prop := (Rd H a (.tup ys) ∧ ¬ ι.av a) ∨ SqT K noHp a ys
def keyD : Key → PyData
  | .inl i => .int i
  | .inr x => .str x
mutual
inductive RD (K : PySem.W.Frag) (ι : Adr) (H : Hp) : PyData → V → Prop
  | non : RD K ι H .none .non
  | bl (b : Bool) : RD K ι H (.bool b) (.bl b)
  | int (i : Int) : RD K ι H (.int i) (.int i)
  | str (x : Str) : RD K ι H (.str x) (.str x)
  | lst {a : Addr} {ys xs} : H a = some (.lst ys) → ¬ ι.av a → RDs K ι H xs ys → RD K ι H (.list xs) (.ref a)
  | tup {a : Addr} {ys xs} : H a = some (.tup ys) → ¬ ι.av a → RDs K ι H xs ys → RD K ι H (.tuple xs) (.ref a)
  | dicK {a : Addr} {kvs : List (Key × V)} {ds : List (PyData × PyData)} : Rd H a (.dK kvs) → ¬ ι.av a → ds ≠ [] ∧ ds.map (·.1) = kvs.map (fun p => keyD p.1) → RDs K ι H (ds.map (·.2)) (kvs.map (·.2)) → RD K ι H (.dict ds) (.ref a)
  | dicT {a : Addr} {kvs : List (List Key × V)} {ds : List (PyData × PyData)} : Rd H a (.dT kvs) → ¬ ι.av a → ds.map (·.1) = kvs.map (fun p => .tuple (p.1.map keyD)) → RDs K ι H (ds.map (·.2)) (kvs.map (·.2)) → RD K ι H (.dict ds) (.ref a)
inductive RDs (K : PySem.W.Frag) (ι : Adr) (H : Hp) : List PyData → List V → Prop
  | nil : RDs K ι H [] []
  | cons {x v xs vs} : RD K ι H x v → RDs K ι H xs vs → RDs K ι H (x :: xs) (v :: vs)
end
def Rep (K : PySem.W.Frag) (ι : Adr) (H : Hp) : Vl → V → Prop
  | .d x, v => RD K ι H x v
  | .ref n, v => n < ι.at_.length ∧ ∀ a, ι.at_[n]? = some (some a) → v = .ref a
  | .scr ns, v => ∃ a, v = .ref a ∧ FzL K ι H a (ns.map V.int)

structure Step (ι : Adr) (H : Hp) (ι' : Adr) (H' : Hp) : Prop where
  len : ι.at_.length ≤ ι'.at_.length
  old : ∀ (n : Nat) (a : Addr), n < ι.at_.length → ι'.at_[n]? = some (some a) → ι.at_[n]? = some (some a)
  new : ∀ (n : Nat) (a : Addr), ι.at_.length ≤ n → ι'.at_[n]? = some (some a) → H a = none
  keep : ∀ a o, H a = some o → some a ∉ ι.at_ → H' a = some o
  hd : ∀ a, ι'.hid a → ι.hid a ∨ H a = none
  hm : ∀ a, ι.hid a → ι'.hid a
  dom : ∀ a, H' a = none → H a = none

theorem mem_at {l : List (Option Addr)} {a : Addr} : some a ∈ l ↔ ∃ n : Nat, l[n]? = some (some a) := List.mem_iff_getElem?
theorem Step.refl (ι : Adr) (H : Hp) : Step ι H ι H :=
  ⟨Nat.le_refl _, fun _ _ _ h => h, fun n a h e => absurd (List.getElem?_eq_some_iff.mp e).1 (Nat.not_lt.mpr h), fun _ _ h _ => h, fun _ h => .inl h, fun _ h => h, fun _ h => h⟩
theorem Step.off1 {ι ι' : Adr} {H H' : Hp} (s : Step ι H ι' H') {a : Addr} {o : HO} (h : H a = some o) (n : some a ∉ ι.at_) : some a ∉ ι'.at_ := fun hm => by
  obtain ⟨i, hi⟩ := mem_at.mp hm
  by_cases q : i < ι.at_.length
  · exact n (mem_at.mpr ⟨i, s.old i a q hi⟩)
  · have := s.new i a (Nat.not_lt.mp q) hi
    rw [h] at this
    cases this
theorem Step.off {ι ι' : Adr} {H H' : Hp} (s : Step ι H ι' H') {a : Addr} {o : HO} (h : H a = some o) (n : ¬ ι.av a) : ¬ ι'.av a := fun hm => by
  rcases hm with hm | hm
  · exact s.off1 h (fun z => n (.inl z)) hm
  · rcases s.hd a hm with z | z
    · exact n (.inr z)
    · rw [h] at z; cases z
theorem Step.trans {ι ι' ι'' : Adr} {H H' H'' : Hp} (s : Step ι H ι' H') (t : Step ι' H' ι'' H'') : Step ι H ι'' H'' where
  len := Nat.le_trans s.len t.len
  old := fun n a h e => s.old n a h (t.old n a (Nat.lt_of_lt_of_le h s.len) e)
  new := fun n a h e => by
    by_cases q : n < ι'.at_.length
    · exact s.new n a h (t.old n a q e)
    · exact s.dom a (t.new n a (Nat.not_lt.mp q) e)
  keep := fun a o h n => t.keep a o (s.keep a o h n) (s.off1 h n)
  hd := fun a h => (t.hd a h).elim (s.hd a) fun z => .inr (s.dom a z)
  hm := fun a h => t.hm a (s.hm a h)
  dom := fun a h => s.dom a (t.dom a h)
theorem Step.rd {ι ι' : Adr} {H H' : Hp} (s : Step ι H ι' H') {a : Addr} {u : HO} (h : Rd H a u) (n : ¬ ι.av a) : Rd H' a u ∧ ¬ ι'.av a := by
  have n1 : some a ∉ ι.at_ := fun z => n (.inl z)
  rcases h with h | ⟨o, h⟩
  · exact ⟨.inl (s.keep a _ h n1), s.off h n⟩
  · exact ⟨.inr ⟨o, s.keep a _ h n1⟩, s.off h n⟩
theorem FzL.mono {K ι ι' H H' a ys} (s : Step ι H ι' H') (h : FzL K ι H a ys) : FzL K ι' H' a ys := by
  rcases h with ⟨h, n⟩ | h
  · exact .inl (s.rd h n)
  · exact .inr h
theorem FzT.mono {K ι ι' H H' a ys} (s : Step ι H ι' H') (h : FzT K ι H a ys) : FzT K ι' H' a ys := by
  rcases h with ⟨h, n⟩ | h
  · exact .inl (s.rd h n)
  · exact .inr h
theorem FzL.anti {K ι ι' H a ys} (s : ∀ a : Addr, ι'.av a → ι.av a) (h : FzL K ι H a ys) : FzL K ι' H a ys := by
  rcases h with ⟨h, n⟩ | h
  · exact .inl ⟨h, fun z => n (s a z)⟩
  · exact .inr h
theorem FzT.anti {K ι ι' H a ys} (s : ∀ a : Addr, ι'.av a → ι.av a) (h : FzT K ι H a ys) : FzT K ι' H a ys := by
  rcases h with ⟨h, n⟩ | h
  · exact .inl ⟨h, fun z => n (s a z)⟩
  · exact .inr h
theorem sqL_of {K : PySem.W.Frag} {H : Hp} {a : Addr} {ys : List V} (h : SqL K noHp a ys) : SqL K H a ys := by
  rcases h with (h | ⟨o, h⟩) | h
  · cases h
  · cases h
  · exact .inr h
theorem sqT_of {K : PySem.W.Frag} {H : Hp} {a : Addr} {ys : List V} (h : SqT K noHp a ys) : SqT K H a ys := by
  rcases h with (h | ⟨o, h⟩) | h
  · cases h
  · cases h
  · exact .inr h
theorem FzL.sq {K ι H a ys} (h : FzL K ι H a ys) : SqL K H a ys := by
  rcases h with ⟨h, n⟩ | h
  · exact .inl h
  · exact sqL_of h
theorem FzT.sq {K ι H a ys} (h : FzT K ι H a ys) : SqT K H a ys := by
  rcases h with ⟨h, n⟩ | h
  · exact .inl h
  · exact sqT_of h
mutual
theorem RD.mono {K ι ι' H H'} (s : Step ι H ι' H') : ∀ {x v}, RD K ι H x v → RD K ι' H' x v
  | _, _, .non => .non
  | _, _, .bl b => .bl b
  | _, _, .int i => .int i
  | _, _, .str x => .str x
  | _, _, .lst h n r => .lst (s.keep _ _ h fun z => n (.inl z)) (s.off h n) (RDs.mono s r)
  | _, _, .tup h n r => .tup (s.keep _ _ h fun z => n (.inl z)) (s.off h n) (RDs.mono s r)
  | _, _, .dicK h n e r => .dicK (s.rd h n).1 (s.rd h n).2 e (RDs.mono s r)
  | _, _, .dicT h n e r => .dicT (s.rd h n).1 (s.rd h n).2 e (RDs.mono s r)
theorem RDs.mono {K ι ι' H H'} (s : Step ι H ι' H') : ∀ {x v}, RDs K ι H x v → RDs K ι' H' x v
  | _, _, .nil => .nil
  | _, _, .cons a b => .cons (RD.mono s a) (RDs.mono s b)
end
mutual
theorem RD.anti {K ι ι' H} (s : ∀ a : Addr, ι'.av a → ι.av a) : ∀ {x v}, RD K ι H x v → RD K ι' H x v
  | _, _, .non => .non
  | _, _, .bl b => .bl b
  | _, _, .int i => .int i
  | _, _, .str x => .str x
  | _, _, .lst h n r => .lst h (fun z => n (s _ z)) (RDs.anti s r)
  | _, _, .tup h n r => .tup h (fun z => n (s _ z)) (RDs.anti s r)
  | _, _, .dicK h n e r => .dicK h (fun z => n (s _ z)) e (RDs.anti s r)
  | _, _, .dicT h n e r => .dicT h (fun z => n (s _ z)) e (RDs.anti s r)
theorem RDs.anti {K ι ι' H} (s : ∀ a : Addr, ι'.av a → ι.av a) : ∀ {x v}, RDs K ι H x v → RDs K ι' H x v
  | _, _, .nil => .nil
  | _, _, .cons a b => .cons (RD.anti s a) (RDs.anti s b)
end
theorem RD.free {K ι H x v} (h : RD K ι H x v) : RD K .nil H x v := h.anti fun a z => absurd z (Adr.nil_av a)
theorem RDs.free {K ι H x v} (h : RDs K ι H x v) : RDs K .nil H x v := h.anti fun a z => absurd z (Adr.nil_av a)
theorem RDs.len {K ι H} : ∀ {xs vs}, RDs K ι H xs vs → xs.length = vs.length
  | _, _, .nil => rfl
  | _, _, .cons _ b => by simp [RDs.len b]
theorem RDs.append {K ι H} : ∀ {xs vs ys ws}, RDs K ι H xs vs → RDs K ι H ys ws → RDs K ι H (xs ++ ys) (vs ++ ws)
  | _, _, _, _, .nil, h => h
  | _, _, _, _, .cons a b, h => .cons a (RDs.append b h)
theorem RDs.take {K ι H} : ∀ {xs vs} (n : Nat), RDs K ι H xs vs → RDs K ι H (xs.take n) (vs.take n)
  | _, _, 0, _ => by simp; exact .nil
  | _, _, _ + 1, .nil => .nil
  | _, _, n + 1, .cons a b => .cons a (RDs.take n b)
theorem RDs.drop {K ι H} : ∀ {xs vs} (n : Nat), RDs K ι H xs vs → RDs K ι H (xs.drop n) (vs.drop n)
  | _, _, 0, h => h
  | _, _, _ + 1, .nil => .nil
  | _, _, n + 1, .cons a b => RDs.drop n b
theorem RDs.get {K ι H} : ∀ {xs vs} {i : Nat} {x : PyData}, RDs K ι H xs vs → xs[i]? = some x → ∃ v, vs[i]? = some v ∧ RD K ι H x v
  | _, _, _, _, .nil, e => by simp at e
  | _, _, 0, _, .cons a _, e => by simp at e; subst e; exact ⟨_, rfl, a⟩
  | _, _, i + 1, x, .cons _ b, e => by
    obtain ⟨v, h1, h2⟩ := RDs.get (i := i) b (by simpa using e)
    exact ⟨v, by simpa using h1, h2⟩
theorem RDs.getV {K ι H} : ∀ {xs vs} {i : Nat} {v : V}, RDs K ι H xs vs → vs[i]? = some v → ∃ x, xs[i]? = some x ∧ RD K ι H x v
  | _, _, _, _, .nil, e => by simp at e
  | _, _, 0, _, .cons a _, e => by simp at e; subst e; exact ⟨_, rfl, a⟩
  | _, _, i + 1, x, .cons _ b, e => by
    obtain ⟨v, h1, h2⟩ := RDs.getV (i := i) b (by simpa using e)
    exact ⟨v, by simpa using h1, h2⟩
theorem RDs.set {K ι H x v} (r : RD K ι H x v) : ∀ {xs vs} (n : Nat), RDs K ι H xs vs → RDs K ι H (xs.set n x) (vs.set n v)
  | _, _, _, .nil => .nil
  | _, _, 0, .cons _ b => .cons r b
  | _, _, n + 1, .cons a b => .cons a (RDs.set r n b)
theorem RDs.erase {K ι H} : ∀ {xs vs} (n : Nat), RDs K ι H xs vs → RDs K ι H (xs.eraseIdx n) (vs.eraseIdx n)
  | _, _, _, .nil => .nil
  | _, _, 0, .cons _ b => b
  | _, _, n + 1, .cons a b => .cons a (RDs.erase n b)
theorem RDs.reverse {K ι H} : ∀ {xs vs}, RDs K ι H xs vs → RDs K ι H xs.reverse vs.reverse
  | _, _, .nil => .nil
  | _, _, .cons a b => by
    rw [List.reverse_cons, List.reverse_cons]
    exact (RDs.reverse b).append (.cons a .nil)
mutual
theorem RD.dp {K ι H} : ∀ {x v}, SeqAt.shaped x = true ∨ x.canLay0 = true → RD K ι H x v → Dp K H v x
  | _, _, _, .non => .non
  | _, _, _, .bl b => .bl b
  | _, _, _, .int i => .int i
  | _, _, _, .str x => .str x
  | _, _, c, .lst h n r => .lst (SqL.of h) (RDs.dp (by
      rcases c with c | c
      · have := SeqAt.canLay_of_shaped c
        simpa [PyData.canLay0] using this
      · simpa [PyData.canLay0] using c) r)
  | _, _, c, .tup h n r => .tup (SqT.of h) (RDs.dp (by
      rcases c with c | c
      · have := SeqAt.canLay_of_shaped c
        simpa [PyData.canLay0] using this
      · simpa [PyData.canLay0] using c) r)
  | _, _, c, .dicK h n e r => by
    rcases c with c | c
    · have := SeqAt.canLay_of_shaped c
      simp [PyData.canLay0] at this
    · simp [PyData.canLay0] at c
  | _, _, c, .dicT h n e r => by
    rcases c with c | c
    · have := SeqAt.canLay_of_shaped c
      simp [PyData.canLay0] at this
    · simp [PyData.canLay0] at c
theorem RDs.dp {K ι H} : ∀ {x v}, PyData.canLayAll0 x = true → RDs K ι H x v → DpAll K H v x
  | _, _, _, .nil => .nil
  | _, _, c, .cons a b => by
    simp only [PyData.canLayAll0, Bool.and_eq_true] at c
    exact .cons (RD.dp (.inr c.1) a) (RDs.dp c.2 b)
end
theorem Rep.mono {K ι ι' H H'} (s : Step ι H ι' H') : ∀ {x v}, Rep K ι H x v → Rep K ι' H' x v
  | .d _, _, h => RD.mono s h
  | .ref n, _, h => ⟨Nat.lt_of_lt_of_le h.1 s.len, fun a e => h.2 a (s.old n a h.1 e)⟩
  | .scr ns, _, ⟨a, e, h⟩ => ⟨a, e, h.mono s⟩

/-! ## cells, environments -/
def CellOk (K : PySem.W.Frag) (ι : Adr) (H : Hp) (a : Addr) : Cell → Prop
  | .lst xs => ∃ ys, H a = some (.lst ys) ∧ RDs K ι H xs ys
  | .dct ds => (∃ kvs : List (Key × V), H a = some (.dK kvs) ∧ (ds ≠ [] ∧ ds.map (·.1) = kvs.map (fun p => keyD p.1)) ∧ RDs K ι H (ds.map (·.2)) (kvs.map (·.2))) ∨
      ∃ kvs : List (List Key × V), H a = some (.dT kvs) ∧ ds.map (·.1) = kvs.map (fun p => .tuple (p.1.map keyD)) ∧ RDs K ι H (ds.map (·.2)) (kvs.map (·.2))
structure StOk (K : PySem.W.Frag) (ι : Adr) (H : Hp) (S : Store) : Prop where
  len : S.length = ι.at_.length
  cell : ∀ (n : Nat) (c : Cell), S[n]? = some (some c) → ∃ a, ι.at_[n]? = some (some a) ∧ CellOk K ι H a c
  dead : ∀ (n : Nat), S[n]? = some none → ι.at_[n]? = some none
  inj : ∀ (n m : Nat) (a : Addr), ι.at_[n]? = some (some a) → ι.at_[m]? = some (some a) → n = m
  hid : ∀ a, ι.hid a → some a ∉ ι.at_ ∧ ∃ o, H a = some o ∧ ∀ ys, o ≠ .tup ys
def EnvOk (K : PySem.W.Frag) (ι : Adr) (H : Hp) (E : Env) (σ : List (Option V)) : Prop :=
  E.length = σ.length ∧ ∀ (i : Nat) (v : Vl), E[i]? = some (some v) → ∃ u, σ[i]? = some (some u) ∧ Rep K ι H v u
theorem EnvOk.mono {K ι ι' H H' E σ} (s : Step ι H ι' H') (h : EnvOk K ι H E σ) : EnvOk K ι' H' E σ :=
  ⟨h.1, fun i v e => let ⟨u, h1, h2⟩ := h.2 i v e; ⟨u, h1, h2.mono s⟩⟩
def OutOk0 (K : PySem.W.Frag) (H0 : Hp) (ι : Adr) (H : Hp) : Out → V → Prop
  | .val v, u => Rep K ι H v u
  | .lst xs, u => ∃ p, u = .ref p ∧ H0 p = none ∧ ¬ ι.av p ∧ CellOk K (ι.push p) H p (.lst xs)
  | .dct kvs, u => ∃ p, u = .ref p ∧ H0 p = none ∧ ¬ ι.av p ∧ CellOk K (ι.push p) H p (.dct kvs)
theorem in_app {ι : Adr} {p : Addr} : ∀ a : Addr, ι.av a → (ι.push p).av a := fun a h => h.imp (fun h => List.mem_append_left _ h) fun h => h
theorem OutOk0.settle {K H0 ι H} : ∀ {o u}, OutOk0 K H0 ι H o u → Rep K ι H (settle o) u
  | .val _, _, h => h
  | .lst xs, _, ⟨p, e, _, n, ys, h, r⟩ => by
    subst e
    exact RD.lst h n (r.anti in_app)
  | .dct xs, _, ⟨p, e, _, n, h⟩ => by
    subst e
    rcases h with ⟨kvs, h, e, r⟩ | ⟨kvs, h, e, r⟩
    · exact RD.dicK (.of h) n e (r.anti in_app)
    · exact RD.dicT (.of h) n e (r.anti in_app)
theorem OutOk0.back {K H0 H1 ι H} (h : ∀ a, H1 a = none → H0 a = none) : ∀ {o u}, OutOk0 K H1 ι H o u → OutOk0 K H0 ι H o u
  | .val _, _, r => r
  | .lst xs, _, ⟨p, e, n, r⟩ => ⟨p, e, h p n, r⟩
  | .dct xs, _, ⟨p, e, n, r⟩ => ⟨p, e, h p n, r⟩
/-- what a value is as data, as it stands: frozen, or a cell's content -/
def RC (K : PySem.W.Frag) (ι : Adr) (H : Hp) (x : PyData) (u : V) : Prop :=
  RD K ι H x u ∨ (∃ a xs, u = .ref a ∧ x = .list xs ∧ CellOk K ι H a (.lst xs)) ∨ ∃ a kvs, u = .ref a ∧ x = .dict kvs ∧ CellOk K ι H a (.dct kvs)
theorem RC.free {K ι H x u} (h : RC K ι H x u) : RD K .nil H x u := by
  rcases h with h | ⟨a, xs, rfl, rfl, ys, h1, h2⟩ | ⟨a, kvs, rfl, rfl, h⟩
  · exact h.free
  · exact RD.lst h1 (Adr.nil_av _) h2.free
  · rcases h with ⟨ks, h1, h2, h3⟩ | ⟨ks, h1, h2, h3⟩
    · exact RD.dicK (.of h1) (Adr.nil_av _) h2 h3.free
    · exact RD.dicT (.of h1) (Adr.nil_av _) h2 h3.free
theorem Rep.toD {K ι H S} (ok : StOk K ι H S) : ∀ {v u x}, Rep K ι H v u → toD S v = some x → RC K ι H x u
  | .d y, u, x, h, e => by
    have : y = x := Option.some.inj e
    subst this
    exact .inl h
  | .ref n, u, x, h, e => by
    simp only [Lf.toD, cellAt] at e
    cases q : S[n]? with
    | none => rw [q] at e; simp at e
    | some o =>
      cases o with
      | none => rw [q] at e; simp at e
      | some c =>
        obtain ⟨a, ha, hc⟩ := ok.cell n c q
        have := h.2 a ha
        subst this
        rw [q] at e
        cases c with
        | lst xs =>
          simp at e; subst e
          exact .inr (.inl ⟨a, xs, rfl, rfl, hc⟩)
        | dct kvs =>
          simp at e; subst e
          exact .inr (.inr ⟨a, kvs, rfl, rfl, hc⟩)
  | .scr ns, u, x, h, e => by simp [Lf.toD] at e
def RW (K : PySem.W.Frag) (ι : Adr) (H : Hp) (x : PyData) (u : V) : Prop := RC K ι H x u ∨ ∃ (a : Addr) (ns : List Int), x = .list (ns.map .int) ∧ u = .ref a ∧ SqL K H a (ns.map V.int)
theorem Rep.toDw {K ι H S} (ok : StOk K ι H S) : ∀ {v u x}, Rep K ι H v u → toDw S v = some x → RW K ι H x u
  | .d y, u, x, h, e => .inl (Rep.toD ok h e)
  | .ref n, u, x, h, e => .inl (Rep.toD ok h e)
  | .scr ns, u, x, ⟨a, e1, h⟩, e => by
    simp only [Lf.toDw, Option.some.injEq] at e
    exact .inr ⟨a, ns, e.symm, e1, h.sq⟩
theorem RC.lst {K ι H xs u} (h : RC K ι H (.list xs) u) : ∃ a ys, u = .ref a ∧ H a = some (.lst ys) ∧ RDs K ι H xs ys := by
  rcases h with h | ⟨a, zs, rfl, e, ys, h1, h2⟩ | ⟨a, kvs, rfl, e, h⟩
  · cases h with
    | lst h n r => exact ⟨_, _, rfl, h, r⟩
  · cases e
    exact ⟨a, ys, rfl, h1, h2⟩
  · cases e
theorem RC.tup {K ι H xs u} (h : RC K ι H (.tuple xs) u) : ∃ a ys, u = .ref a ∧ H a = some (.tup ys) ∧ ¬ ι.av a ∧ RDs K ι H xs ys := by
  rcases h with h | ⟨a, zs, rfl, e, ys, h1, h2⟩ | ⟨a, kvs, rfl, e, h⟩
  · cases h with
    | tup h n r => exact ⟨_, _, rfl, h, n, r⟩
  · cases e
  · cases e
theorem RC.int {K ι H i u} (h : RC K ι H (.int i) u) : u = .int i := by
  rcases h with h | ⟨a, zs, rfl, e, ys, h1, h2⟩ | ⟨a, kvs, rfl, e, h⟩
  · cases h; rfl
  · cases e
  · cases e
theorem RC.str {K ι H i u} (h : RC K ι H (.str i) u) : u = .str i := by
  rcases h with h | ⟨a, zs, rfl, e, ys, h1, h2⟩ | ⟨a, kvs, rfl, e, h⟩
  · cases h; rfl
  · cases e
  · cases e
theorem RC.bool {K ι H i u} (h : RC K ι H (.bool i) u) : u = .bl i := by
  rcases h with h | ⟨a, zs, rfl, e, ys, h1, h2⟩ | ⟨a, kvs, rfl, e, h⟩
  · cases h; rfl
  · cases e
  · cases e
theorem RC.none {K ι H u} (h : RC K ι H .none u) : u = .non := by
  rcases h with h | ⟨a, zs, rfl, e, ys, h1, h2⟩ | ⟨a, kvs, rfl, e, h⟩
  · cases h; rfl
  · cases e
  · cases e
theorem RC.dct {K ι H ds u} (h : RC K ι H (.dict ds) u) : ∃ a, u = .ref a ∧ ((∃ kvs : List (Key × V), Rd H a (.dK kvs) ∧ (ds ≠ [] ∧ ds.map (·.1) = kvs.map (fun p => keyD p.1)) ∧ RDs K ι H (ds.map (·.2)) (kvs.map (·.2))) ∨
      ∃ kvs : List (List Key × V), Rd H a (.dT kvs) ∧ ds.map (·.1) = kvs.map (fun p => .tuple (p.1.map keyD)) ∧ RDs K ι H (ds.map (·.2)) (kvs.map (·.2))) := by
  rcases h with h | ⟨a, zs, rfl, e, ys, h1, h2⟩ | ⟨a, kvs, rfl, e, h⟩
  · cases h with
    | dicK h n e r => exact ⟨_, rfl, .inl ⟨_, h, e, r⟩⟩
    | dicT h n e r => exact ⟨_, rfl, .inr ⟨_, h, e, r⟩⟩
  · cases e
  · cases e
    rcases h with ⟨ks, h1, h2, h3⟩ | ⟨ks, h1, h2, h3⟩
    · exact ⟨a, rfl, .inl ⟨ks, .of h1, h2, h3⟩⟩
    · exact ⟨a, rfl, .inr ⟨ks, .of h1, h2, h3⟩⟩

/-! ## a grown heap -/
theorem Step.same {ι : Adr} {H H' : Hp} (s : Same H H') : Step ι H ι H' where
  len := Nat.le_refl _
  old := fun _ _ _ h => h
  new := fun n a h e => absurd (List.getElem?_eq_some_iff.mp e).1 (Nat.not_lt.mpr h)
  keep := fun a o h _ => s a o h
  hd := fun _ h => .inl h
  hm := fun _ h => h
  dom := fun a h => s.free h
theorem same_upd {H : Hp} {p : Addr} {o : HO} (h : H p = none) : Same H (upd H p o) := fun b x e => by
  rw [upd_ne (ne_of_none e h)]
  exact e
theorem CellOk.same {K ι ι' H H' a} (s : Same H H') (st : Step ι H ι' H') : ∀ {c}, CellOk K ι H a c → CellOk K ι' H' a c
  | .lst _, ⟨ys, h, r⟩ => ⟨ys, s _ _ h, r.mono st⟩
  | .dct _, .inl ⟨ys, h, e, r⟩ => .inl ⟨ys, s _ _ h, e, r.mono st⟩
  | .dct _, .inr ⟨ys, h, e, r⟩ => .inr ⟨ys, s _ _ h, e, r.mono st⟩
theorem StOk.same {K ι H H' S} (ok : StOk K ι H S) (s : Same H H') : StOk K ι H' S where
  len := ok.len
  cell := fun n c e => let ⟨a, h1, h2⟩ := ok.cell n c e; ⟨a, h1, h2.same s (Step.same s)⟩
  dead := ok.dead
  inj := ok.inj
  hid := fun a h => let ⟨n, o, e, q⟩ := ok.hid a h; ⟨n, o, s _ _ e, q⟩
/-- what is wanted of a result that an operation gives, the heap grown at most -/
def Wish (K : PySem.W.Frag) (ι : Adr) (H : Hp) (out : Out) (Q : VK) : Prop := ∀ u H', Same H H' → OutOk0 K H ι H' out u → Q u H'
theorem Wish.d {K ι H x Q u} (h : Wish K ι H (.val (.d x)) Q) (r : RD K ι H x u) : Q u H := h u H (Same.refl H) r
theorem fresh_off {K ι H S} (ok : StOk K ι H S) {p : Addr} (h : H p = none) : ¬ ι.av p := fun hm => by
  rcases hm with hm | hm
  case inr =>
    obtain ⟨_, o, e, _⟩ := ok.hid p hm
    rw [h] at e; cases e
  obtain ⟨n, hn⟩ := mem_at.mp hm
  cases q : S[n]? with
  | none =>
    have h1 : n < ι.at_.length := (List.getElem?_eq_some_iff.mp hn).1
    rw [← ok.len] at h1
    have := List.getElem?_eq_none_iff.mp q
    omega
  | some o =>
    cases o with
    | none =>
      have := ok.dead n q
      rw [hn] at this
      cases this
    | some c =>
      obtain ⟨a, h1, h2⟩ := ok.cell n c q
      rw [hn] at h1
      cases h1
      cases c with
      | lst xs =>
        obtain ⟨ys, e, _⟩ := h2
        rw [h] at e; cases e
      | dct xs =>
        rcases h2 with ⟨ys, e, _⟩ | ⟨ys, e, _⟩ <;> (rw [h] at e; cases e)
theorem Wish.tup {K ι H S xs ys Q p} (h : Wish K ι H (.val (.d (.tuple xs))) Q) (ok : StOk K ι H S) (r : RDs K ι H xs ys) (hp : H p = none) : Q (.ref p) (upd H p (.tup ys)) :=
  h _ _ (same_upd hp) (RD.tup upd_same (fresh_off ok hp) (r.mono (Step.same (same_upd hp))))
theorem Step.pushed {ι : Adr} {H : Hp} {p : Addr} {o : HO} (hp : H p = none) : Step ι H (ι.push p) (upd H p o) where
  len := by simp [Adr.push]
  old := fun n a h e => by
    have e : (ι.at_ ++ [some p])[n]? = some (some a) := e
    rwa [List.getElem?_append_left h] at e
  new := fun n a h e => by
    have e : (ι.at_ ++ [some p])[n]? = some (some a) := e
    rw [List.getElem?_append_right h] at e
    cases q : n - ι.at_.length with
    | zero => rw [q] at e; simp at e; rw [← e]; exact hp
    | succ k => rw [q] at e; simp at e
  keep := fun a o h _ => same_upd hp a o h
  hd := fun _ h => .inl h
  hm := fun _ h => h
  dom := fun a h => (same_upd hp).free h
theorem RDs.avoid {K ι H p xs ys} (r : RDs K ι H xs ys) (hp : H p = none) : RDs K (ι.push p) (upd H p (.lst ys)) xs ys := r.mono (Step.pushed hp)
theorem Wish.lst {K ι H S xs ys Q p} (h : Wish K ι H (.lst xs) Q) (ok : StOk K ι H S) (r : RDs K ι H xs ys) (hp : H p = none) : Q (.ref p) (upd H p (.lst ys)) :=
  h _ _ (same_upd hp) ⟨p, rfl, hp, fresh_off ok hp, ys, upd_same, r.avoid hp⟩


/-- .. nothing else leads to what was just made -/
def OutOk (K : PySem.W.Frag) (H0 : Hp) (ι : Adr) (H : Hp) (S : Store) : Out → V → Prop
  | .val v, u => Rep K ι H v u
  | .lst xs, u => ∃ p, u = .ref p ∧ H0 p = none ∧ ¬ ι.av p ∧ StOk K (ι.push p) H (S ++ [some (.lst xs)])
  | .dct kvs, u => ∃ p, u = .ref p ∧ H0 p = none ∧ ¬ ι.av p ∧ StOk K (ι.push p) H (S ++ [some (.dct kvs)])
theorem Step.new1 {ι : Adr} {H H' : Hp} {p : Addr} (s : Same H H') (hp : H p = none) : Step ι H (ι.push p) H' where
  len := by simp [Adr.push]
  old := fun n a h e => by
    have e : (ι.at_ ++ [some p])[n]? = some (some a) := e
    rwa [List.getElem?_append_left h] at e
  new := fun n a h e => by
    have e : (ι.at_ ++ [some p])[n]? = some (some a) := e
    rw [List.getElem?_append_right h] at e
    cases q : n - ι.at_.length with
    | zero => rw [q] at e; simp at e; rw [← e]; exact hp
    | succ k => rw [q] at e; simp at e
  keep := fun a o h _ => s a o h
  hd := fun _ h => .inl h
  hm := fun _ h => h
  dom := fun a h => s.free h
theorem StOk.pushed {K : PySem.W.Frag} {ι : Adr} {H H' : Hp} {S : Store} {p : Addr} {c : Cell} (ok : StOk K ι H S) (s : Same H H') (hp : H p = none) (hc : CellOk K (ι.push p) H' p c) : StOk K (ι.push p) H' (S ++ [some c]) where
  len := by simp [Adr.push, ok.len]
  cell := fun n d e => by
    by_cases q : n < S.length
    · rw [List.getElem?_append_left q] at e
      obtain ⟨a, h1, h2⟩ := ok.cell n d e
      refine ⟨a, ?_, h2.same s (Step.new1 s hp)⟩
      show (ι.at_ ++ [some p])[n]? = _
      rw [List.getElem?_append_left (by rw [← ok.len]; exact q)]; exact h1
    · rw [List.getElem?_append_right (Nat.not_lt.mp q)] at e
      cases z : n - S.length with
      | zero =>
        rw [z] at e; simp at e; subst e
        refine ⟨p, ?_, hc⟩
        show (ι.at_ ++ [some p])[n]? = _
        rw [List.getElem?_append_right (by rw [← ok.len]; omega), ← ok.len, z]; rfl
      | succ k => rw [z] at e; simp at e
  dead := fun n e => by
    by_cases q : n < S.length
    · rw [List.getElem?_append_left q] at e
      show (ι.at_ ++ [some p])[n]? = _
      rw [List.getElem?_append_left (by rw [← ok.len]; exact q)]; exact ok.dead n e
    · rw [List.getElem?_append_right (Nat.not_lt.mp q)] at e
      cases z : n - S.length with
      | zero => rw [z] at e; simp at e
      | succ k => rw [z] at e; simp at e
  inj := fun n m a h1 h2 => by
    have off : ¬ ι.av p := fresh_off ok hp
    have h1 : (ι.at_ ++ [some p])[n]? = some (some a) := h1
    have h2 : (ι.at_ ++ [some p])[m]? = some (some a) := h2
    have at_p : ∀ k : Nat, (ι.at_ ++ [some p])[k]? = some (some a) → (ι.at_[k]? = some (some a) ∧ k < ι.at_.length) ∨ (k = ι.at_.length ∧ a = p) := fun k e => by
      by_cases q : k < ι.at_.length
      · rw [List.getElem?_append_left q] at e; exact .inl ⟨e, q⟩
      · rw [List.getElem?_append_right (Nat.not_lt.mp q)] at e
        cases z : k - ι.at_.length with
        | zero => rw [z] at e; simp at e; exact .inr ⟨by omega, e.symm⟩
        | succ j => rw [z] at e; simp at e
    rcases at_p n h1 with ⟨e1, q1⟩ | ⟨e1, q1⟩ <;> rcases at_p m h2 with ⟨e2, q2⟩ | ⟨e2, q2⟩
    · exact ok.inj n m a e1 e2
    · subst q2; exact absurd (.inl (mem_at.mpr ⟨n, e1⟩)) off
    · subst q1; exact absurd (.inl (mem_at.mpr ⟨m, e2⟩)) off
    · omega
  hid := fun a h => by
    obtain ⟨n, o, e, q⟩ := ok.hid a h
    refine ⟨fun hm => ?_, o, s _ _ e, q⟩
    rcases List.mem_append.mp hm with hm | hm
    · exact n hm
    · simp at hm
      rw [hm, hp] at e; cases e
theorem OutOk0.up {K : PySem.W.Frag} {ι : Adr} {H H' : Hp} {S : Store} (ok : StOk K ι H S) (s : Same H H') : ∀ {o u}, OutOk0 K H ι H' o u → OutOk K H ι H' S o u
  | .val _, _, h => h
  | .lst xs, _, ⟨p, e, h0, n, h⟩ => ⟨p, e, h0, n, ok.pushed s h0 h⟩
  | .dct xs, _, ⟨p, e, h0, n, h⟩ => ⟨p, e, h0, n, ok.pushed s h0 h⟩
theorem StOk.last {K : PySem.W.Frag} {ι : Adr} {H : Hp} {S : Store} {p : Addr} {c : Cell} (h : StOk K (ι.push p) H (S ++ [some c])) : S.length = ι.at_.length ∧ CellOk K (ι.push p) H p c := by
  have hl := h.len
  simp [Adr.push] at hl
  refine ⟨hl, ?_⟩
  obtain ⟨a, h1, h2⟩ := h.cell S.length c (by simp)
  have h1 : (ι.at_ ++ [some p])[S.length]? = some (some a) := h1
  rw [hl] at h1
  simp at h1
  subst h1; exact h2
theorem OutOk.down {K H0 ι H S} : ∀ {o u}, OutOk K H0 ι H S o u → OutOk0 K H0 ι H o u
  | .val _, _, h => h
  | .lst _, _, ⟨p, e, h0, n, h⟩ => ⟨p, e, h0, n, h.last.2⟩
  | .dct _, _, ⟨p, e, h0, n, h⟩ => ⟨p, e, h0, n, h.last.2⟩
theorem OutOk.settle {K H0 ι H S o u} (h : OutOk K H0 ι H S o u) : Rep K ι H (settle o) u := h.down.settle
theorem OutOk.back {K H0 H1 ι H S} (h : ∀ a, H1 a = none → H0 a = none) : ∀ {o u}, OutOk K H1 ι H S o u → OutOk K H0 ι H S o u
  | .val _, _, r => r
  | .lst xs, _, ⟨p, e, n, r⟩ => ⟨p, e, h p n, r⟩
  | .dct xs, _, ⟨p, e, n, r⟩ => ⟨p, e, h p n, r⟩

/-! ## what is wanted behind a run -/
abbrev ER := Nat → Hp → Prop
def Post (K : PySem.W.Frag) (er : ER) (ι : Adr) (H : Hp) {α : Type} (G : α → Store → Adr → Hp → Prop) : Res α → Prop
  | .ok a S' => ∀ ι' H', Step ι H ι' H' → StOk K ι' H' S' → G a S' ι' H'
  | .exc c S' => ∀ ι' H', Step ι H ι' H' → StOk K ι' H' S' → er c H'
  | .stuck => False
section
variable {K : PySem.W.Frag} {er : ER} {ι ι' : Adr} {H H' : Hp} {S : Store} {α β : Type}
theorem Post.imp {G G' : α → Store → Adr → Hp → Prop} {r : Res α} (h : Post K er ι H G r) (f : ∀ a S' ι' H', Step ι H ι' H' → StOk K ι' H' S' → G a S' ι' H' → G' a S' ι' H') : Post K er ι H G' r := by
  cases r with
  | ok a S' => exact fun ι' H' s k => f a S' ι' H' s k (h ι' H' s k)
  | exc c S' => exact h
  | stuck => exact h
theorem Post.bind {m : M α} {f : α → M β} {G : β → Store → Adr → Hp → Prop} (h : Post K er ι H G (M.bind m f S)) :
    Post K er ι H (fun a S1 ι1 H1 => Post K er ι1 H1 G (f a S1)) (m S) := by
  unfold M.bind at h
  cases q : m S with
  | stuck => rw [q] at h; exact h
  | exc c S' => rw [q] at h; exact h
  | ok a S1 =>
    rw [q] at h
    intro ι1 H1 s1 k1
    show Post K er ι1 H1 G (f a S1)
    have h' : Post K er ι H G (f a S1) := h
    cases q2 : f a S1 with
    | stuck => rw [q2] at h'; exact h'
    | exc c S' =>
      rw [q2] at h'
      exact fun ι2 H2 s2 k2 => h' ι2 H2 (s1.trans s2) k2
    | ok b S2 =>
      rw [q2] at h'
      exact fun ι2 H2 s2 k2 => h' ι2 H2 (s1.trans s2) k2
theorem Post.same {G : α → Store → Adr → Hp → Prop} {r : Res α} (h : Post K er ι H G r) (s : Same H H') : Post K er ι H' G r := by
  cases r with
  | stuck => exact h
  | exc c S' => exact fun ι2 H2 t k => h ι2 H2 ((Step.same s).trans t) k
  | ok a S' => exact fun ι2 H2 t k => h ι2 H2 ((Step.same s).trans t) k
/-- at the state itself -/
theorem Post.here {G : α → Store → Adr → Hp → Prop} {a : α} (h : Post K er ι H G (.ok a S)) (ok : StOk K ι H S) : G a S ι H := h ι H (Step.refl ι H) ok
theorem Post.lift {G : α → Store → Adr → Hp → Prop} {o : Option α} (h : Post K er ι H G (M.lift o S)) (ok : StOk K ι H S) : ∃ a, o = some a ∧ G a S ι H := by
  cases o with
  | none => exact False.elim h
  | some a => exact ⟨a, rfl, Post.here h ok⟩
theorem Post.pure {G : α → Store → Adr → Hp → Prop} {a : α} (h : Post K er ι H G (M.pure a S)) (ok : StOk K ι H S) : G a S ι H := Post.here h ok
theorem Post.toD {G : PyData → Store → Adr → Hp → Prop} {v : Vl} (h : Post K er ι H G (toDM v S)) (ok : StOk K ι H S) : ∃ x, toD S v = some x ∧ G x S ι H := by
  unfold toDM at h
  cases q : Lf.toD S v with
  | none => rw [q] at h; exact False.elim h
  | some x => rw [q] at h; exact ⟨x, rfl, Post.here h ok⟩
theorem Post.toDw {G : PyData → Store → Adr → Hp → Prop} {v : Vl} (h : Post K er ι H G (toDwM v S)) (ok : StOk K ι H S) : ∃ x, toDw S v = some x ∧ G x S ι H := by
  unfold toDwM at h
  cases q : Lf.toDw S v with
  | none => rw [q] at h; exact False.elim h
  | some x => rw [q] at h; exact ⟨x, rfl, Post.here h ok⟩
theorem Post.ite {G : α → Store → Adr → Hp → Prop} {c : Prop} [Decidable c] {m : M α} (h : Post K er ι H G ((if c then m else fun _ => .stuck) S)) : c ∧ Post K er ι H G (m S) := by
  by_cases q : c
  · rw [if_pos q] at h; exact ⟨q, h⟩
  · rw [if_neg q] at h; exact False.elim h
end
end Lf

set_option Elab.async false
set_option linter.all false
set_option maxRecDepth 100000
/-! Numbers and truth values, added and subtracted. -/
namespace Lf
open PySem PySem.Spec PyProof.Rows L2
theorem g_add_bi (p : Bool) (j : Int) (t : Tok) : Gives (Builtin.«int.__add__» ⟨[.bool p, .int j t], []⟩) (.int ((if p = true then (1 : Int) else 0) + j)) := by
  apply Gives.of_wp
  intro M A E s Q h
  cases s
  wp_walk
  exact ⟨_, rfl, h⟩
theorem g_sub_bi (p : Bool) (j : Int) (t : Tok) : Gives (Builtin.«int.__sub__» ⟨[.bool p, .int j t], []⟩) (.int ((if p = true then (1 : Int) else 0) - j)) := by
  apply Gives.of_wp
  intro M A E s Q h
  cases s
  wp_walk
  exact ⟨_, rfl, h⟩
theorem g_sub_ib (p : Bool) (j : Int) (t : Tok) : Gives (Builtin.«int.__sub__» ⟨[.int j t, .bool p], []⟩) (.int (j - if p = true then (1 : Int) else 0)) := by
  apply Gives.of_wp
  intro M A E s Q h
  cases s
  wp_walk
  exact ⟨_, rfl, h⟩
theorem nb : isSubtype (.type "int") (.type "bool") = pure false := by rw [isSubtype_type]; kernel_rfl
theorem same_sub : reflectedDiffers (.type "int") (.type "bool") "sub" = pure false := by
  unfold reflectedDiffers
  show (typeLookup (.type "bool") (dunderR "sub") >>= fun x => typeLookup (.type "int") (dunderR "sub") >>= fun y => pure (x.isSome && x != y)) = pure false
  rw [typeLookup_type, typeLookup_type, builtinLookup_eq_fast]
  kernel_rfl
section
variable {X : Cx}
theorem op_add_bi : OpR X (binaryOp .Add) (fun x y H Q => ∃ p j, x = .bl p ∧ y = .int j ∧ Q (.int (bI p + j)) H) := by
  intro pins s σ H x y v u Q I rx ry ⟨p, j, e1, e2, q⟩
  subst e1 e2
  cases rx
  obtain ⟨t, rfl⟩ := ry
  exact binaryOp_left_gives (op := .Add) (T := "bool") (U := "int") (by decide) rfl (fun _ => rfl) F.fills_bool_add F.fills_int_add nb F.slot_bool_add F.slot_int_radd F.entry_int_add (F.args_int_add_2 _ _) (g_add_bi p j t) trivial ⟨.int (bI p + j), H, I.tok _, ⟨_, rfl⟩, q⟩
theorem op_sub_bi : OpR X (binaryOp .Sub) (fun x y H Q => ∃ p j, x = .bl p ∧ y = .int j ∧ Q (.int (bI p - j)) H) := by
  intro pins s σ H x y v u Q I rx ry ⟨p, j, e1, e2, q⟩
  subst e1 e2
  cases rx
  obtain ⟨t, rfl⟩ := ry
  exact binaryOp_left_gives (op := .Sub) (T := "bool") (U := "int") (by decide) rfl (fun _ => rfl) F.fills_bool_sub F.fills_int_sub nb F.slot_bool_sub F.slot_int_rsub F.entry_int_sub (F.args_int_sub_2 _ _) (g_sub_bi p j t) trivial ⟨.int (bI p - j), H, I.tok _, ⟨_, rfl⟩, q⟩
theorem op_sub_ib : OpR X (binaryOp .Sub) (fun x y H Q => ∃ j p, x = .int j ∧ y = .bl p ∧ Q (.int (j - bI p)) H) := by
  intro pins s σ H x y v u Q I rx ry ⟨j, p, e1, e2, q⟩
  subst e1 e2
  obtain ⟨t, rfl⟩ := rx
  cases ry
  exact binaryOp_sub_gives (op := .Sub) (T := "int") (U := "bool") (by decide) (typeIs_int s j t) rfl F.fills_int_sub F.fills_bool_sub isSubtype_bool_int same_sub F.slot_int_sub F.entry_int_sub (F.args_int_sub_2 _ _) (g_sub_ib p j t) trivial ⟨.int (j - bI p), H, I.tok _, ⟨_, rfl⟩, q⟩
end
end Lf

set_option Elab.async false
set_option linter.all false
set_option maxRecDepth 100000
set_option maxHeartbeats 2000000
/-! Dicts as they lie. -/
namespace Lf
open PySem PySem.Spec PyProof.Rows L2
theorem keyV {K ι H x u k} (h : RD K ι H x u) (e : keyOf x = some k) : u = kV k ∧ x = keyD k := by
  cases h <;> simp [keyOf] at e <;> subst e <;> exact ⟨rfl, rfl⟩
theorem keysV {K ι H} : ∀ {xs us ks}, RDs K ι H xs us → keysOf xs = some ks → us = ks.map kV ∧ xs = ks.map keyD
  | _, _, _, .nil, e => by simp [keysOf] at e; subst e; exact ⟨rfl, rfl⟩
  | _, _, ks, .cons (x := x) (xs := xs) r t, e => by
    unfold keysOf at e
    cases q1 : keyOf x with
    | none => rw [q1] at e; simp at e
    | some k =>
      cases q2 : keysOf xs with
      | none => rw [q1, q2] at e; simp at e
      | some ks' =>
        rw [q1, q2] at e
        simp at e
        subst e
        obtain ⟨h1, h2⟩ := keyV r q1
        obtain ⟨h3, h4⟩ := keysV t q2
        exact ⟨by rw [h1, h3]; rfl, by rw [h2, h4]; rfl⟩
/-- what lies at a key -/
theorem dkOf_keyD (k : Key) : dkOf (keyD k) = some (.k k) := by cases k <;> rfl
theorem keyOf_keyD (k : Key) : keyOf (keyD k) = some k := by cases k <;> rfl
theorem keysOf_keyD : ∀ ks : List Key, keysOf (ks.map keyD) = some ks
  | [] => rfl
  | k :: ks => by simp [keysOf, keyOf_keyD, keysOf_keyD ks]
theorem dkOf_keysD (ks : List Key) : dkOf (.tuple (ks.map keyD)) = some (.t ks) := by
  simp [dkOf, keysOf_keyD]


def Hit (K : PySem.W.Frag) (ι : Adr) (H : Hp) : Option PyData → Option V → Prop
  | some d, r => ∃ v, r = some v ∧ RD K ι H d v
  | none, r => r = none
/-- a dict's rows, by a way f of writing keys -/
inductive DR {κ : Type} (f : κ → PyData) (K : PySem.W.Frag) (ι : Adr) (H : Hp) : List (PyData × PyData) → List (κ × V) → Prop
  | nil : DR f K ι H [] []
  | cons {k d v ds kvs} : RD K ι H d v → DR f K ι H ds kvs → DR f K ι H ((f k, d) :: ds) ((k, v) :: kvs)
def fT (ks : List Key) : PyData := .tuple (ks.map keyD)
section
variable {κ : Type} {f : κ → PyData} {K : PySem.W.Frag} {ι ι' : Adr} {H H' : Hp}
theorem DR.of : ∀ {ds : List (PyData × PyData)} {kvs : List (κ × V)}, ds.map (·.1) = kvs.map (fun p => f p.1) → RDs K ι H (ds.map (·.2)) (kvs.map (·.2)) → DR f K ι H ds kvs
  | [], [], _, _ => .nil
  | [], _ :: _, e, _ => by simp at e
  | _ :: _, [], e, _ => by simp at e
  | (a, d) :: ds, (k, v) :: kvs, e, r => by
    simp only [List.map_cons, List.cons.injEq] at e
    cases r with
    | cons r t =>
      obtain ⟨rfl, e⟩ := e
      exact .cons r (DR.of e t)
theorem DR.keys {ds : List (PyData × PyData)} {kvs : List (κ × V)} (h : DR f K ι H ds kvs) : ds.map (·.1) = kvs.map (fun p => f p.1) := by
  induction h with
  | nil => rfl
  | cons r t ih => simp only [List.map_cons, ih]
theorem DR.vals {ds : List (PyData × PyData)} {kvs : List (κ × V)} (h : DR f K ι H ds kvs) : RDs K ι H (ds.map (·.2)) (kvs.map (·.2)) := by
  induction h with
  | nil => exact .nil
  | cons r t ih => exact .cons r ih
theorem DR.len {ds : List (PyData × PyData)} {kvs : List (κ × V)} (h : DR f K ι H ds kvs) : ds.length = kvs.length := by
  induction h with
  | nil => rfl
  | cons r t ih => simp [ih]
theorem DR.app {ds ds' : List (PyData × PyData)} {kvs kvs' : List (κ × V)} (h : DR f K ι H ds kvs) (h' : DR f K ι H ds' kvs') : DR f K ι H (ds ++ ds') (kvs ++ kvs') := by
  induction h with
  | nil => exact h'
  | cons r t ih => exact .cons r ih
variable [DecidableEq κ] {g : κ → DK}
theorem DR.at (hg : ∀ k, dkOf (f k) = some (g k)) (inj : ∀ j k, g j = g k → j = k) {ds : List (PyData × PyData)} {kvs : List (κ × V)} (h : DR f K ι H ds kvs) (k : κ) :
    Hit K ι H (dictAt ds (g k)) (valV kvs k) := by
  induction h with
  | nil => rfl
  | @cons j d v ds kvs r t ih =>
    unfold dictAt
    by_cases e : j = k
    · subst e
      rw [if_pos (hg _)]
      exact ⟨v, valV_pos (p := (j, v)) rfl, r⟩
    · rw [if_neg (fun z => by rw [hg] at z; exact e (inj _ _ (Option.some.inj z))), valV_neg (p := (j, v)) e]
      exact ih
theorem DR.any (hg : ∀ k, dkOf (f k) = some (g k)) (inj : ∀ j k, g j = g k → j = k) {ds : List (PyData × PyData)} {kvs : List (κ × V)} (h : DR f K ι H ds kvs) (k : κ) :
    (ds.any fun p => decide (dkOf p.1 = some (g k))) = kvs.any fun kv => decide (kv.1 = k) := by
  induction h with
  | nil => rfl
  | @cons j d v ds kvs r t ih =>
    rw [List.any_cons, List.any_cons, ih]
    congr 1
    rw [Bool.eq_iff_iff, decide_eq_true_eq, decide_eq_true_eq]
    show dkOf (f j) = some (g k) ↔ j = k
    rw [hg]
    exact ⟨fun z => inj _ _ (Option.some.inj z), fun z => by rw [z]⟩
theorem DR.put (hg : ∀ k, dkOf (f k) = some (g k)) (inj : ∀ j k, g j = g k → j = k) {ds : List (PyData × PyData)} {kvs : List (κ × V)} (h : DR f K ι H ds kvs) (k : κ) {d : PyData} {v : V} (r : RD K ι H d v) :
    DR f K ι H (dctPut ds (g k) (f k) d) (putK kvs k v) := by
  have rep : DR f K ι H (ds.map fun p => if dkOf p.1 = some (g k) then (p.1, d) else p) (kvs.map fun kv => if kv.1 = k then (kv.1, v) else kv) := by
    induction h with
    | nil => exact .nil
    | @cons j d' v' ds kvs r' t ih =>
      rw [List.map_cons, List.map_cons]
      by_cases e : j = k
      · rw [if_pos (show dkOf (f j) = some (g k) by rw [hg, e]), if_pos e]
        exact .cons r ih
      · rw [if_neg (show ¬ dkOf (f j) = some (g k) from fun z => by rw [hg] at z; exact e (inj _ _ (Option.some.inj z))), if_neg e]
        exact .cons r' ih
  unfold dctPut putK
  rw [h.any hg inj k]
  split
  · exact rep
  · exact h.app (.cons r .nil)
theorem DR.drop (hg : ∀ k, dkOf (f k) = some (g k)) (inj : ∀ j k, g j = g k → j = k) {ds : List (PyData × PyData)} {kvs : List (κ × V)} (h : DR f K ι H ds kvs) (k : κ) :
    DR f K ι H (dctDrop ds (g k)) (dropK kvs k) := by
  induction h with
  | nil => exact .nil
  | @cons j d v ds kvs r t ih =>
    unfold dctDrop dropK at *
    by_cases e : j = k
    · rw [List.filter_cons_of_neg (by show ¬ decide (dkOf (f j) ≠ some (g k)) = true; rw [hg, e]; simp), List.filter_cons_of_neg (by simp [e])]
      exact ih
    · rw [List.filter_cons_of_pos (by show decide (dkOf (f j) ≠ some (g k)) = true; rw [hg, decide_eq_true_eq]; exact fun z => e (inj _ _ (Option.some.inj z))), List.filter_cons_of_pos (by simp [e])]
      exact .cons r ih
end
section
variable {K : PySem.W.Frag} {ι : Adr} {H : Hp}
theorem gK (k : Key) : dkOf (keyD k) = some (.k k) := dkOf_keyD k
theorem gT (k : List Key) : dkOf (fT k) = some (.t k) := dkOf_keysD k
theorem injK (j k : Key) (e : DK.k j = DK.k k) : j = k := by cases e; rfl
theorem injT (j k : List Key) (e : DK.t j = DK.t k) : j = k := by cases e; rfl
/-- a dict's rows, by kind -/
theorem RC.rows {ds : List (PyData × PyData)} {u : V} (h : RC K ι H (.dict ds) u) : ∃ a, u = .ref a ∧ ((∃ kvs : List (Key × V), Rd H a (.dK kvs) ∧ ds ≠ [] ∧ DR keyD K ι H ds kvs) ∨ ∃ kvs : List (List Key × V), Rd H a (.dT kvs) ∧ DR fT K ι H ds kvs) := by
  obtain ⟨a, e, ⟨kvs, h1, ⟨h0, h2⟩, h3⟩ | ⟨kvs, h1, h2, h3⟩⟩ := h.dct
  · exact ⟨a, e, .inl ⟨kvs, h1, h0, .of h2 h3⟩⟩
  · exact ⟨a, e, .inr ⟨kvs, h1, .of h2 h3⟩⟩
theorem RC.at_key {y : PyData} {w : V} {k : DK} (h : RC K ι H y w) (e : dkOf y = some k) : (∃ j, k = .k j ∧ y = keyD j ∧ w = kV j) ∨ ∃ j b, k = .t j ∧ y = fT j ∧ w = .ref b ∧ H b = some (.tup (j.map kV)) := by
  cases y <;> simp only [dkOf] at e <;> try (cases e; done)
  · cases e; cases h.int; exact .inl ⟨.inl _, rfl, rfl, rfl⟩
  · cases e; cases h.str; exact .inl ⟨.inr _, rfl, rfl, rfl⟩
  · rename_i xs
    cases q : keysOf xs with
    | none => rw [q] at e; cases e
    | some ks =>
      rw [q] at e
      cases e
      obtain ⟨b, ys, rfl, hb, _, r⟩ := h.tup
      obtain ⟨e1, e2⟩ := keysV r q
      exact .inr ⟨ks, b, rfl, by rw [e2]; rfl, rfl, by rw [hb, e1]⟩
theorem kind_K {ds : List (PyData × PyData)} {kvs : List (Key × V)} (h : DR keyD K ι H ds kvs) {j : List Key} (e : kindB ds (.t j) = true) : ds = [] := by
  cases h with
  | nil => rfl
  | cons r t =>
    unfold kindB at e
    rw [List.all_cons, Bool.and_eq_true] at e
    have e := e.1
    simp only [dkOf_keyD, sameK] at e
    cases e
theorem kind_T {ds : List (PyData × PyData)} {kvs : List (List Key × V)} (h : DR fT K ι H ds kvs) {j : Key} (e : kindB ds (.k j) = true) : ds = [] := by
  cases h with
  | nil => rfl
  | @cons k d v ds kvs r t =>
    unfold kindB at e
    rw [List.all_cons, Bool.and_eq_true] at e
    have e := e.1
    simp only [gT, sameK] at e
    cases e
/-- what a look finds -/
theorem dget_of {ds : List (PyData × PyData)} {y : PyData} {u w : V} {o : Option PyData} (hd : RC K ι H (.dict ds) u) (hk : RC K ι H y w) (e : dgetO ds y = some o) :
    ∃ a r, u = .ref a ∧ DGet H a w r ∧ Hit K ι H o r := by
  unfold dgetO at e
  cases q : dkOf y with
  | none => rw [q] at e; cases e
  | some k =>
    rw [q] at e
    simp only at e
    split at e
    · rename_i c
      have e := Option.some.inj e
      subst e
      rw [Bool.and_eq_true] at c
      obtain ⟨a, rfl, ⟨kvs, h1, h0, h2⟩ | ⟨kvs, h1, h2⟩⟩ := hd.rows
      · rcases hk.at_key q with ⟨j, rfl, rfl, rfl⟩ | ⟨j, b, rfl, rfl, rfl, hb⟩
        · refine ⟨a, _, rfl, .inl ⟨kvs, j, h1, rfl, rfl⟩, h2.at gK injK j⟩
        · exact absurd (kind_K h2 c.1) h0
      · rcases hk.at_key q with ⟨j, rfl, rfl, rfl⟩ | ⟨j, b, rfl, rfl, rfl, hb⟩
        · have := kind_T h2 c.1
          subst this
          simp [isT] at c
        · refine ⟨a, _, rfl, .inr ⟨kvs, j, b, h1, rfl, hb, rfl⟩, h2.at gT injT j⟩
    · cases e
end
/-! ### is a key in a dict -/
section
variable {X : Cx} {pins : List (Addr × Obj)} {σ : L2.St} {H : Hp} {s : Shared} {ι : Adr} {A : Around} {E : Value → Shared → Prop}
theorem dict0 {a : Addr} (I : Inv X pins σ H s) (e : Rd H a (.dT [])) : (a == sysModules) = false ∧ s.heap.DictOf (mixKind X.prog X.w) a [] := by
  obtain ⟨z, hd, xs, rel, o, es, ep, ho, hx, hdat, hes, _⟩ := (show ObjOk X.prog X.w H s.heap a (.dT []) from rd_of I.hok e)
  cases rel
  have hes : es.toList = [] := by simpa using hes
  exact ⟨hd, o, es, ep, ho, hx, hdat, fun en he => absurd (Array.mem_toList_iff.mpr he) (by rw [hes]; simp), by rw [hes]; exact .nil, by simp⟩
theorem dgetE_of {ds : List (PyData × PyData)} {y : PyData} {o : Option PyData} (e : dgetE ds y = some o) : dgetO ds y = some o ∨ (ds = [] ∧ o = none ∧ ∃ j, dkOf y = some (.k j)) := by
  unfold dgetE at e
  split at e
  · cases q : dkOf y with
    | none => rw [q] at e; cases e
    | some k =>
      rw [q] at e
      cases e
      cases k with
      | k j => exact .inr ⟨rfl, rfl, j, rfl⟩
      | t j =>
        refine .inl ?_
        unfold dgetO
        rw [q]
        rfl
  · exact .inl e
theorem in_dict {ds : List (PyData × PyData)} {y : PyData} {u w : V} {u' w' : Value} {o : Option PyData} {Q : Value → Shared → Prop} (hu : A.units + 1 < cLine) (I : Inv X pins σ H s) (hd : RC X.K ι H (.dict ds) u) (hk : RC X.K ι H y w) (e : dgetE ds y = some o)
    (ru : RelV u u') (rw : RelV w w') (q : ∀ s', Inv X pins σ H s' → Q (.bool o.isSome) s') : wpAny (model X.prog X.w) A (compareOp .In w' u') Q E s := by
  rcases dgetE_of e with e | ⟨rfl, rfl, j, ej⟩
  · obtain ⟨a, r, rfl, g, hr⟩ := dget_of hd hk e
    cases ru
    refine d_in hu I g rw fun s' I' => ?_
    have e : r.isSome = o.isSome := by
      cases o with
      | none => rw [show r = none from hr]; rfl
      | some d => obtain ⟨z, hz, _⟩ := hr; rw [hz]; rfl
    rw [e]
    exact q s' I'
  · obtain ⟨a, rfl, ⟨kvs, _, h0, _⟩ | ⟨kvs, h1, h2⟩⟩ := hd.rows
    · exact absurd rfl h0
    · cases h2
      rcases hk.at_key ej with ⟨j', e1, _, rfl⟩ | ⟨j', b, e1, _⟩
      · obtain ⟨hs, dd⟩ := dict0 I h1
        cases ru
        exact wpAny_in_of (kV_is rw) hs dd.mapOf (q _ (I.tok _))
      · cases e1
theorem notIn_dict {ds : List (PyData × PyData)} {y : PyData} {u w : V} {u' w' : Value} {o : Option PyData} {Q : Value → Shared → Prop} (hu : A.units + 1 < cLine) (I : Inv X pins σ H s) (hd : RC X.K ι H (.dict ds) u) (hk : RC X.K ι H y w) (e : dgetE ds y = some o)
    (ru : RelV u u') (rw : RelV w w') (q : ∀ s', Inv X pins σ H s' → Q (.bool (!o.isSome)) s') : wpAny (model X.prog X.w) A (compareOp .NotIn w' u') Q E s := by
  rcases dgetE_of e with e | ⟨rfl, rfl, j, ej⟩
  · obtain ⟨a, r, rfl, g, hr⟩ := dget_of hd hk e
    cases ru
    refine d_notIn hu I g rw fun s' I' => ?_
    have e : r.isSome = o.isSome := by
      cases o with
      | none => rw [show r = none from hr]; rfl
      | some d => obtain ⟨z, hz, _⟩ := hr; rw [hz]; rfl
    rw [e]
    exact q s' I'
  · obtain ⟨a, rfl, ⟨kvs, _, h0, _⟩ | ⟨kvs, h1, h2⟩⟩ := hd.rows
    · exact absurd rfl h0
    · cases h2
      rcases hk.at_key ej with ⟨j', e1, _, rfl⟩ | ⟨j', b, e1, _⟩
      · obtain ⟨hs, dd⟩ := dict0 I h1
        cases ru
        exact wpAny_notIn_of (kV_is rw) hs dd.mapOf (q _ (I.tok _))
      · cases e1
end
end Lf

set_option Elab.async false
set_option linter.all false
set_option maxRecDepth 100000
set_option maxHeartbeats 4000000
/-! The operators of the small language are the model's. -/
namespace Lf
open PySem PySem.Spec PyProof.Rows L2

theorem lim_line : lim ≤ sizeLine := by rw [sizeLine_eq]; decide
def opB : BO → Operator
  | .add => .Add
  | .sub => .Sub
  | .mul => .Mult
  | .mod => .Mod
  | .fdiv => .FloorDiv
  | .pow => .Pow
def opC : CO → CmpOp
  | .eq => .Eq
  | .ne => .NotEq
  | .lt => .Lt
  | .le => .LtE
  | .gt => .Gt
  | .ge => .GtE
  | .isn => .Is
  | .nisn => .IsNot
  | .inn => .In
  | .nin => .NotIn
/-- a two-place operation by the data -/
def rB (K : PySem.W.Frag) (f : PyData → PyData → Option Out) : R2 := fun u w H Q => ∃ (ι : Adr) (S : Store) (x y : PyData) (out : Out),
  StOk K ι H S ∧ RC K ι H x u ∧ RC K ι H y w ∧ f x y = some out ∧ Wish K ι H out Q
def bl1 (f : PyData → PyData → Option Bool) (x y : PyData) : Option Out := (f x y).map fun k => .val (.d (.bool k))

section
variable {X : Cx}
theorem op_bin (o : BO) : OpR X (binaryOp (opB o)) (rB X.K (binO o)) := by
  intro pins s σ H u w v v' Q I ru rw ⟨ι, S, x, y, out, ok, hx, hy, e, hq⟩
  cases o with
  | sub =>
    cases x <;> cases y <;> simp only [binO] at e <;> try (cases e; done)
    · cases e
      cases hx.bool; cases hy.int
      exact op_sub_bi pins s σ H _ _ v v' Q I ru rw ⟨_, _, rfl, rfl, hq.d (.int _)⟩
    · cases e
      cases hx.int; cases hy.bool
      exact op_sub_ib pins s σ H _ _ v v' Q I ru rw ⟨_, _, rfl, rfl, hq.d (.int _)⟩
    cases e
    cases hx.int; cases hy.int
    exact op_sub pins s σ H _ _ v v' Q I ru rw ⟨_, _, rfl, rfl, hq.d (.int _)⟩
  | mod =>
    cases x <;> cases y <;> simp only [binO] at e <;> try (cases e; done)
    split at e <;> cases e
    cases hx.int; cases hy.int
    exact op_mod pins s σ H _ _ v v' Q I ru rw ⟨_, _, rfl, rfl, by assumption, hq.d (.int _)⟩
  | fdiv =>
    cases x <;> cases y <;> simp only [binO] at e <;> try (cases e; done)
    split at e <;> cases e
    cases hx.int; cases hy.int
    exact op_fdiv pins s σ H _ _ v v' Q I ru rw ⟨_, _, rfl, rfl, by assumption, hq.d (.int _)⟩
  | pow =>
    cases x <;> cases y <;> simp only [binO] at e <;> try (cases e; done)
    split at e <;> cases e
    rename_i i j hc
    cases hx.int; cases hy.int
    obtain ⟨t, rfl⟩ := ru
    obtain ⟨t', rfl⟩ := rw
    refine pow_int hc.1 ?_ ⟨.int _, H, I.tok _, ⟨_, rfl⟩, hq.d (.int _)⟩
    have h1 : Builtin.Int.intBits i ≤ 4001 := by
      have b : Builtin.Int.intBits i ≤ i.natAbs.log2 + 1 := by
        unfold Builtin.Int.intBits
        split <;> omega
      have := PySem.Flt.log2_lt_of (show 0 < 4000 by decide) hc.2.2
      omega
    have h2 : (Builtin.Int.intBits i : Int) ≤ 4001 := by omega
    have h3 := Int.mul_le_mul h2 hc.2.1 hc.1 (by decide)
    exact Int.le_trans h3 (by decide)
  | mul =>
    cases x <;> cases y <;> simp only [binO] at e <;> try (cases e; done)
    · split at e <;> cases e
      rename_i i j hc
      cases hx.int; cases hy.int
      refine op_mul pins s σ H _ _ v v' Q I ru rw ⟨_, _, rfl, rfl, ?_, hq.d (.int _)⟩
      simp only [smallI, Bool.or_eq_true, Bool.and_eq_true, decide_eq_true_eq] at hc
      exact hc
    · split at e <;> cases e
      rename_i hc
      cases hx.str; cases hy.int
      obtain ⟨t, rfl⟩ := ru
      obtain ⟨t', rfl⟩ := rw
      rcases hc.1 with c | c
      · refine PySem.SB.mul (mulOk_of 4000 4000 c.1 c.2 (by omega) (by decide) (by decide)) fun t2 k => ?_
        exact ⟨.str _, H, I.tok _, ⟨_, rfl⟩, hq.d (.str _)⟩
      · refine PySem.SB.mul (mulOk_of 1000000 16 c.1 c.2 (by omega) (by decide) (by decide)) fun t2 k => ?_
        exact ⟨.str _, H, I.tok _, ⟨_, rfl⟩, hq.d (.str _)⟩
    · split at e <;> try (cases e; done)
      cases e
      rename_i n hc
      obtain ⟨a, ys, rfl, ha, ra⟩ := hx.lst
      cases hy.int
      have l := ra.len
      have z : ys.length * n.toNat ≤ sizeLine := by
        have q := Nat.mul_le_mul (show ys.length ≤ 1000 by omega) (show n.toNat ≤ 1000 by omega)
        exact Nat.le_trans q (by rw [sizeLine_eq]; decide)
      have rep : ∀ m : Nat, RDs X.K _ H (List.replicate m _).flatten (List.replicate m ys).flatten := fun m => by
        induction m with
        | zero => exact .nil
        | succ m ih =>
          rw [List.replicate_succ, List.replicate_succ, List.flatten_cons, List.flatten_cons]
          exact ra.append ih
      exact op_rep pins s σ H _ _ v v' Q I ru rw ⟨a, n, ys, rfl, rfl, ha, by omega, by omega, z, fun p hp => hq.lst ok (rep _) hp⟩
  | add =>
    cases x <;> cases y <;> simp only [binO, addO] at e <;> try (cases e; done)
    · cases e
      cases hx.bool; cases hy.int
      exact op_add_bi pins s σ H _ _ v v' Q I ru rw ⟨_, _, rfl, rfl, hq.d (.int _)⟩
    · cases e
      cases hx.int; cases hy.bool
      exact op_add_ib pins s σ H _ _ v v' Q I ru rw ⟨_, _, rfl, rfl, hq.d (.int _)⟩
    · cases e
      cases hx.int; cases hy.int
      exact op_add pins s σ H _ _ v v' Q I ru rw ⟨_, _, rfl, rfl, hq.d (.int _)⟩
    · split at e <;> cases e
      cases hx.str; cases hy.str
      exact op_add_str pins s σ H _ _ v v' Q I ru rw ⟨_, _, rfl, rfl, Nat.le_trans (by assumption) lim_line, hq.d (.str _)⟩
    · split at e <;> cases e
      rename_i hz
      obtain ⟨a, as, rfl, ha, ra⟩ := hx.lst
      obtain ⟨b, bs, rfl, hb, rb⟩ := hy.lst
      refine op_cat pins s σ H _ _ v v' Q I ru rw ⟨a, b, as, bs, rfl, rfl, ha, hb, ?_, fun p hp => hq.lst ok (ra.append rb) hp⟩
      rw [← ra.len, ← rb.len]
      exact Nat.le_trans hz lim_line
    · split at e <;> cases e
      rename_i hz
      obtain ⟨a, as, rfl, ha, na, ra⟩ := hx.tup
      obtain ⟨b, bs, rfl, hb, nb, rb⟩ := hy.tup
      refine op_catA pins s σ H _ _ v v' Q I ru rw ⟨a, b, as, bs, rfl, rfl, SqT.of ha, SqT.of hb, ?_, fun e0 => ?_, fun e0 e1 => ?_, fun _ _ p hp => hq.tup ok (ra.append rb) hp⟩
      · rw [← ra.len, ← rb.len]
        exact Nat.le_trans hz lim_line
      · subst e0
        cases ra
        exact hq.d (RD.tup hb nb rb)
      · subst e1
        cases rb
        refine hq.d (RD.tup ha na ?_)
        rw [List.append_nil]
        exact ra

def Far (H : Hp) (u w : V) : Prop := ∃ p q us ws, u = .ref p ∧ w = .ref q ∧ H p = some (.lst us) ∧ H q = some (.lst ws) ∧ us.length ≠ ws.length
theorem eqO_dp {K ι H x y u w b} (hx : RC K ι H x u) (hy : RC K ι H y w) (e : eqO x y = some b) :
    (∃ a c, x = .str a ∧ y = .str c ∧ u = .str a ∧ w = .str c ∧ b = decide (a = c)) ∨ (Dp K H u x ∧ Dp K H w y ∧ SeqAt.shaped x = true ∧ SeqAt.shaped y = true ∧ b = PyData.eqv x y) ∨ (Far H u w ∧ b = false) := by
  have gen : (if apart x y = true then some false else if (SeqAt.shaped x && SeqAt.shaped y) = true then some (PyData.eqv x y) else none) = some b → (Dp K H u x ∧ Dp K H w y ∧ SeqAt.shaped x = true ∧ SeqAt.shaped y = true ∧ b = PyData.eqv x y) ∨ (Far H u w ∧ b = false) := fun z => by
    split at z
    · rename_i c
      unfold apart at c
      split at c
      · obtain ⟨p, us, rfl, h1, r1⟩ := hx.lst
        obtain ⟨q, ws, rfl, h2, r2⟩ := hy.lst
        exact .inr ⟨⟨p, q, us, ws, rfl, rfl, h1, h2, by rw [← r1.len, ← r2.len]; simpa using c⟩, (Option.some.inj z).symm⟩
      · cases c
    · split at z
      · rename_i c
        rw [Bool.and_eq_true] at c
        exact .inl ⟨RD.dp (.inl c.1) hx.free, RD.dp (.inl c.2) hy.free, c.1, c.2, (Option.some.inj z).symm⟩
      · cases z
  unfold eqO at e
  split at e
  · cases hx.str; cases hy.str
    exact .inl ⟨_, _, rfl, rfl, rfl, rfl, (Option.some.inj e).symm⟩
  · exact .inr (gen e)
theorem dec_strV {a c : Str} : decide (V.str a = V.str c) = decide (a = c) := by
  by_cases h : a = c
  · subst h; simp
  · have : ¬ V.str a = V.str c := fun e => h (V.str.inj e)
    simp [h, this]
theorem atomV {K ι H x u} (h : RD K ι H x u) (a : atom x = true) : flatV u = true := by
  cases h <;> first | rfl | (simp [atom] at a)
theorem atom_eqV {K ι H x y u w} (h : RD K ι H x u) (a : atom x = true) (h' : RD K ι H y w) (a' : atom y = true) : eqV u w = PyData.eqv x y := by
  cases h <;> cases h' <;> first | rfl | (simp [atom] at a a') | (simp [eqV, PyData.eqv])
theorem atoms_inV {K ι H y w} (h : RD K ι H y w) (a : atom y = true) : ∀ {xs us}, RDs K ι H xs us → xs.all atom = true → us.all flatV = true ∧ inV w us = xs.any fun z => PyData.eqv z y
  | _, _, .nil, _ => ⟨rfl, rfl⟩
  | _, _, .cons r t, e => by
    rw [List.all_cons, Bool.and_eq_true] at e
    obtain ⟨h1, h2⟩ := atoms_inV h a t e.2
    refine ⟨by rw [List.all_cons, atomV r e.1, h1]; rfl, ?_⟩
    unfold inV at h2 ⊢
    rw [List.any_cons, List.any_cons, h2, atom_eqV r e.1 h a]
theorem op_cmpO (o : CO) (hu : X.A.units + 100 < cLine) : OpR X (compareOp (opC o)) (rB X.K (bl1 (cmpO o))) := by
  intro pins s σ H u w v v' Q I ru rw ⟨ι, S, x, y, out, ok, hx, hy, e, hq⟩
  obtain ⟨b, eb, rfl⟩ : ∃ b, cmpO o x y = some b ∧ out = .val (.d (.bool b)) := by
    unfold bl1 at e
    cases q : cmpO o x y with
    | none => rw [q] at e; cases e
    | some b => rw [q] at e; exact ⟨b, rfl, (Option.some.inj e).symm⟩
  have fin : Q (.bl b) H := hq.d (.bl b)
  clear e hq
  cases o with
  | eq =>
    rcases eqO_dp hx hy eb with ⟨a, c, rfl, rfl, rfl, rfl, rfl⟩ | ⟨d1, d2, s1, s2, rfl⟩ | ⟨⟨p, q, us, ws, rfl, rfl, h1, h2, hn⟩, rfl⟩
    · exact op_eq pins s σ H _ _ v v' Q I ru rw ⟨rfl, by rw [dec_strV]; exact fin⟩
    · exact op_eqD (by omega) pins s σ H _ _ v v' Q I ru rw ⟨_, _, d1, d2, s1, s2, fin⟩
    · cases ru; cases rw
      obtain ⟨i1, r1, l1, _⟩ := I.list (SqL.of h1)
      obtain ⟨i2, r2, l2, _⟩ := I.list (SqL.of h2)
      exact SeqAt.eq_list_lengthsAt l1.isList l2.isList (by rw [List.size_toArray, List.size_toArray, ← r1.length, ← r2.length]; simpa using hn) (by omega) (fin_bl I fin rfl)
  | ne =>
    obtain ⟨b', e', rfl⟩ : ∃ b', eqO x y = some b' ∧ b = !b' := by
      have eb : (eqO x y).map (!·) = some b := eb
      cases q : eqO x y with
      | none => rw [q] at eb; cases eb
      | some c => rw [q] at eb; exact ⟨c, rfl, (Option.some.inj eb).symm⟩
    rcases eqO_dp hx hy e' with ⟨a, c, rfl, rfl, rfl, rfl, rfl⟩ | ⟨d1, d2, s1, s2, rfl⟩ | ⟨⟨p, q, us, ws, rfl, rfl, h1, h2, hn⟩, rfl⟩
    · exact op_ne pins s σ H _ _ v v' Q I ru rw ⟨rfl, by rw [dec_strV]; exact fin⟩
    · exact op_neD (by omega) pins s σ H _ _ v v' Q I ru rw ⟨_, _, d1, d2, s1, s2, fin⟩
    · cases ru; cases rw
      obtain ⟨i1, r1, l1, _⟩ := I.list (SqL.of h1)
      obtain ⟨i2, r2, l2, _⟩ := I.list (SqL.of h2)
      exact SeqAt.RcNeAt.lists_lengths l1.isList l2.isList (by rw [List.size_toArray, List.size_toArray, ← r1.length, ← r2.length]; simpa using hn) (by omega) X.prog X.w _ _ (fin_bl I fin rfl)
  | lt =>
    cases x <;> cases y <;> simp only [cmpO, ltO] at eb <;> try (cases eb; done)
    · cases eb
      cases hx.int; cases hy.int
      exact op_lt pins s σ H _ _ v v' Q I ru rw ⟨_, _, rfl, rfl, fin⟩
    · cases eb
      cases hx.str; cases hy.str
      exact op_lt_str pins s σ H _ _ v v' Q I ru rw ⟨_, _, rfl, rfl, fin⟩
  | le =>
    cases x <;> cases y <;> simp only [cmpO, leO] at eb <;> try (cases eb; done)
    · cases eb
      cases hx.int; cases hy.int
      exact op_le pins s σ H _ _ v v' Q I ru rw ⟨_, _, rfl, rfl, fin⟩
    · cases eb
      cases hx.str; cases hy.str
      exact op_le_str pins s σ H _ _ v v' Q I ru rw ⟨_, _, rfl, rfl, fin⟩
  | gt =>
    cases x <;> cases y <;> simp only [cmpO, ltO] at eb <;> try (cases eb; done)
    · cases eb
      cases hx.int; cases hy.int
      exact op_gt pins s σ H _ _ v v' Q I ru rw ⟨_, _, rfl, rfl, fin⟩
    · cases eb
      cases hx.str; cases hy.str
      exact op_gt_str pins s σ H _ _ v v' Q I ru rw ⟨_, _, rfl, rfl, fin⟩
  | ge =>
    cases x <;> cases y <;> simp only [cmpO, leO] at eb <;> try (cases eb; done)
    · cases eb
      cases hx.int; cases hy.int
      exact op_ge pins s σ H _ _ v v' Q I ru rw ⟨_, _, rfl, rfl, fin⟩
    · cases eb
      cases hx.str; cases hy.str
      exact op_ge_str pins s σ H _ _ v v' Q I ru rw ⟨_, _, rfl, rfl, fin⟩
  | isn =>
    cases y <;> simp only [cmpO] at eb <;> try (cases eb; done)
    case bool =>
      cases x <;> simp only [cmpO] at eb <;> try (cases eb; done)
      cases eb
      cases hx.bool; cases hy.bool
      exact op_isBl pins s σ H _ _ v v' Q I ru rw ⟨_, _, rfl, rfl, fin⟩
    cases eb
    cases hy.none
    refine op_isN pins s σ H _ _ v v' Q I ru rw ⟨rfl, ?_⟩
    rw [show decide (u = V.non) = isNone x by
      rcases hx with hx | ⟨a, _, rfl, rfl, _⟩ | ⟨a, _, rfl, rfl, _⟩
      · cases hx <;> simp [isNone]
      · simp [isNone]
      · simp [isNone]]
    exact fin
  | nisn =>
    cases y <;> simp only [cmpO] at eb <;> try (cases eb; done)
    case bool =>
      cases x <;> simp only [cmpO] at eb <;> try (cases eb; done)
      cases eb
      cases hx.bool; cases hy.bool
      exact op_notBl pins s σ H _ _ v v' Q I ru rw ⟨_, _, rfl, rfl, fin⟩
    cases eb
    cases hy.none
    refine op_notN pins s σ H _ _ v v' Q I ru rw ⟨rfl, ?_⟩
    rw [show decide (u = V.non) = isNone x by
      rcases hx with hx | ⟨a, _, rfl, rfl, _⟩ | ⟨a, _, rfl, rfl, _⟩
      · cases hx <;> simp [isNone]
      · simp [isNone]
      · simp [isNone]]
    exact fin
  | inn =>
    simp only [cmpO] at eb
    cases y <;> simp only [inO] at eb <;> try (cases eb; done)
    · cases x <;> simp only at eb <;> try (cases eb; done)
      rename_i z a
      cases hx.str; cases hy.str
      split at eb
      · rename_i c hc
        cases eb
        have ha : a = ⟨#[c]⟩ := by
          obtain ⟨⟨l⟩⟩ := a
          have : l = [c] := hc
          subst this; rfl
        exact op_in_sign pins s σ H _ _ v v' Q I ru rw ⟨c, z, by rw [ha], rfl, fin⟩
      · cases eb
    · split at eb
      · rename_i c
        rw [Bool.and_eq_true] at c
        cases eb
        exact op_inD (by omega) pins s σ H _ _ v v' Q I ru rw ⟨_, _, RD.dp (.inl c.1) hx.free, RD.dp (.inl c.2) hy.free, c.1, c.2, fin⟩
      · cases eb
    · split at eb
      · rename_i c
        rw [Bool.and_eq_true] at c
        cases eb
        obtain ⟨p, ys, rfl, hp, np, r⟩ := hy.tup
        obtain ⟨h1, h2⟩ := atoms_inV hx.free c.1 r.free c.2
        refine op_in_seq pins s σ H _ _ v v' Q I ru rw ⟨p, ys, rfl, .inr (SqT.of hp), atomV hx.free c.1, h1, ?_⟩
        rw [if_neg (by decide), h2]
        exact fin
      · cases eb
    · cases q : dgetE _ x with
      | none => rw [q] at eb; cases eb
      | some o =>
        rw [q] at eb
        cases eb
        exact in_dict (by omega) I hy hx q rw ru fun s' I' => ⟨.bl o.isSome, H, I', rfl, fin⟩
  | nin =>
    obtain ⟨b', e2, rfl⟩ : ∃ b', inO x y = some b' ∧ b = !b' := by
      have eb : (inO x y).map (!·) = some b := eb
      cases q : inO x y with
      | none => rw [q] at eb; cases eb
      | some c => rw [q] at eb; exact ⟨c, rfl, (Option.some.inj eb).symm⟩
    clear eb
    cases y <;> simp only [inO] at e2 <;> try (cases e2; done)
    · cases x <;> simp only at e2 <;> try (cases e2; done)
      rename_i z a
      cases hx.str; cases hy.str
      split at e2
      · rename_i c hc
        cases e2
        have ha : a = ⟨#[c]⟩ := by
          obtain ⟨⟨l⟩⟩ := a
          have : l = [c] := hc
          subst this; rfl
        exact op_notIn_sign pins s σ H _ _ v v' Q I ru rw ⟨c, z, by rw [ha], rfl, fin⟩
      · cases e2
    · split at e2
      · rename_i c
        rw [Bool.and_eq_true] at c
        cases e2
        exact op_notInD (by omega) pins s σ H _ _ v v' Q I ru rw ⟨_, _, RD.dp (.inl c.1) hx.free, RD.dp (.inl c.2) hy.free, c.1, c.2, fin⟩
      · cases e2
    · split at e2
      · rename_i c
        rw [Bool.and_eq_true] at c
        cases e2
        obtain ⟨p, ys, rfl, hp, np, r⟩ := hy.tup
        obtain ⟨h1, h2⟩ := atoms_inV hx.free c.1 r.free c.2
        refine op_notIn_seq pins s σ H _ _ v v' Q I ru rw ⟨p, ys, rfl, .inr (SqT.of hp), atomV hx.free c.1, h1, ?_⟩
        rw [if_pos rfl, h2]
        exact fin
      · cases e2
    · cases q : dgetE _ x with
      | none => rw [q] at e2; cases e2
      | some o =>
        rw [q] at e2
        cases e2
        exact notIn_dict (by omega) I hy hx q rw ru fun s' I' => ⟨.bl (!o.isSome), H, I', rfl, fin⟩

/-! ### truth, length, places -/
theorem tru_of {K ι H x u k} (h : RC K ι H x u) (e : truthO x = some k) : TruV K u H k := by
  cases x <;> simp only [truthO] at e
  · cases h.none; exact (Option.some.inj e).symm
  · cases h.bool; exact (Option.some.inj e).symm
  · cases h.int; exact (Option.some.inj e).symm
  · split at e
    · rename_i hz
      cases h.str
      refine ⟨Nat.le_trans hz lim_line, ?_⟩
      rw [← Option.some.inj e]
      cases q : Str.length _ with
      | zero => rfl
      | succ n => rfl
    · cases e
  · obtain ⟨a, ys, rfl, ha, r⟩ := h.lst
    refine .inl ⟨ys, SqL.of ha, ?_⟩
    rw [← Option.some.inj e]
    cases r <;> rfl
  · obtain ⟨a, ys, rfl, ha, na, r⟩ := h.tup
    refine .inr (.inl ⟨ys, SqT.of ha, ?_⟩)
    rw [← Option.some.inj e]
    cases r <;> rfl
  · cases e
theorem len_of {K ι H x u n} (h : RW K ι H x u) (e : lenO x = some n) : LenV K u H n := by
  rcases h with h | ⟨a, ns, rfl, rfl, hs⟩
  · cases x <;> simp only [lenO] at e <;> try (cases e; done)
    · split at e
      · rename_i hz
        cases h.str
        exact ⟨Nat.le_trans hz lim_line, (Option.some.inj e).symm⟩
      · cases e
    · obtain ⟨a, ys, rfl, ha, r⟩ := h.lst
      exact .inl ⟨ys, SqL.of ha, by rw [← r.len]; exact (Option.some.inj e).symm⟩
    · obtain ⟨a, ys, rfl, ha, na, r⟩ := h.tup
      exact .inr ⟨ys, SqT.of ha, by rw [← r.len]; exact (Option.some.inj e).symm⟩
  · simp only [lenO, List.length_map] at e
    exact .inl ⟨_, hs, by rw [List.length_map]; exact (Option.some.inj e).symm⟩
theorem RDs.ints {K ι H} : ∀ ns : List Int, RDs K ι H (ns.map .int) (ns.map V.int)
  | [] => .nil
  | n :: ns => .cons (.int n) (RDs.ints ns)
theorem RDs.atI {K ι H xs us i x} (r : RDs K ι H xs us) (e : atI xs i = some x) : ∃ u, atI us i = some u ∧ RD K ι H x u := by
  unfold L2.atI at e ⊢
  rw [← r.len]
  cases q : ixN xs.length i with
  | none => rw [q] at e; cases e
  | some j =>
    rw [q] at e
    exact r.get e
def rIdx (K : PySem.W.Frag) : R2 := fun u w H Q => ∃ (ι : Adr) (x y z : PyData), RW K ι H x u ∧ RC K ι H y w ∧ idxO x y = some z ∧ ∀ r, RD K ι H z r → Q r H
theorem ix_ok (hu : X.A.units + 1 < cLine) : IxR X (rIdx X.K) := by
  intro value slice pins s σ H u w v v' Q I ru rw ⟨ι, x, y, z, hx, hy, e, hq⟩ hs
  rcases hx with hx | ⟨a, ns, rfl, rfl, hsq⟩
  · by_cases hdc : ∃ kvs, x = .dict kvs
    · obtain ⟨kvs, rfl⟩ := hdc
      have e : (dgetO kvs y).join = some z := e
      cases q : dgetO kvs y with
      | none => rw [q] at e; cases e
      | some o =>
        rw [q] at e
        have e : o = some z := e
        subst e
        obtain ⟨a, r, rfl, g, t, rfl, rt⟩ := dget_of hx hy q
        cases ru
        exact tail_any (dict_typeIs I g) PySem.F.slot_dict_getitem.lookup (d_getItem hu I g rw fun w' s3 I3 rw' => ⟨t, H, I3, rw', hq t rt⟩) hs
    cases x <;> cases y <;> simp only [idxO] at e <;> try first | (cases e; done) | (exact absurd ⟨_, rfl⟩ hdc)
    · split at e
      · rename_i hz
        cases hx.str; cases hy.int
        cases q : atI _ _ with
        | none => rw [q] at e; cases e
        | some c =>
          rw [q] at e
          cases e
          exact ix_str value slice pins s σ H _ _ v v' Q I ru rw ⟨_, _, c, rfl, rfl, Nat.le_trans hz lim_line, q, hq _ (.str _)⟩ hs
      · cases e
    · cases hy.int
      obtain ⟨a, ys, rfl, ha, r⟩ := hx.lst
      obtain ⟨t, h1, h2⟩ := r.atI e
      exact ix_list value slice pins s σ H _ _ v v' Q I ru rw ⟨a, ys, _, t, rfl, rfl, SqL.of ha, h1, hq _ h2⟩ hs
    · cases hy.int
      obtain ⟨a, ys, rfl, ha, na, r⟩ := hx.tup
      obtain ⟨t, h1, h2⟩ := r.atI e
      exact ix_tup value slice pins s σ H _ _ v v' Q I ru rw ⟨a, ys, _, t, rfl, rfl, SqT.of ha, h1, hq _ h2⟩ hs
  · cases y <;> simp only [idxO] at e <;> try (cases e; done)
    cases hy.int
    obtain ⟨t, h1, h2⟩ := (RDs.ints (K := X.K) (ι := ι) (H := H) ns).atI e
    exact ix_list value slice pins s σ H _ _ v v' Q I ru rw ⟨a, _, _, t, rfl, rfl, hsq, h1, hq _ h2⟩ hs
/-! ### slices -/
theorem RDs.cut {K ι H xs us lo hi} (r : RDs K ι H xs us) : RDs K ι H (cutL xs lo hi) (cutV us lo hi) := by
  unfold cutL cutV
  rw [← r.len]
  exact (r.drop _).take _
def rSli (K : PySem.W.Frag) : V → Option Int → Option Int → Hp → VK → Prop := fun u lo hi H Q => ∃ (ι : Adr) (S : Store) (x : PyData) (out : Out), StOk K ι H S ∧ RC K ι H x u ∧ sliceO x lo hi = some out ∧ Wish K ι H out Q
theorem sl_ok : SlR X (rSli X.K) := by
  intro pins s σ H u v vl vu lo hi sl Q I ru hs pl pu ⟨ι, S, x, out, ok, hx, e, hq⟩
  cases x <;> simp only [sliceO] at e <;> try (cases e; done)
  · split at e <;> cases e
    rename_i hz
    cases hx.str
    exact sl_str pins s σ H _ v vl vu lo hi sl Q I ru hs pl pu ⟨_, rfl, Nat.le_trans hz lim_line, hq.d (.str _)⟩
  · cases e
    obtain ⟨a, ys, rfl, ha, r⟩ := hx.lst
    exact sl_list pins s σ H _ v vl vu lo hi sl Q I ru hs pl pu ⟨a, ys, rfl, SqL.of ha, fun p hp => hq.lst ok r.cut hp⟩
  · cases e
    obtain ⟨a, ys, rfl, ha, na, r⟩ := hx.tup
    refine sl_tupA pins s σ H _ v vl vu lo hi sl Q I ru hs pl pu ⟨a, ys, rfl, SqT.of ha, fun hw => hq.d ?_, fun _ p hp => hq.tup ok r.cut hp⟩
    refine RD.tup ha na ?_
    have := r.cut (lo := lo) (hi := hi)
    have e2 : cutV ys lo hi = ys := by
      unfold cutV
      rw [hw.1, hw.2]
      simp
    rw [e2] at this
    exact this
end
end Lf

set_option Elab.async false
set_option linter.all false
set_option maxRecDepth 100000
set_option maxHeartbeats 4000000
/-! repr of data that lies in the abstract heap. -/
namespace Lf
open PySem PySem.Spec PyProof.Rows L2
section
variable {X : Cx} {pins : List (Addr × Obj)} {σ : L2.St} {H : Hp} {s : Shared} {ι : Adr}

theorem pairsD {P : Program} {w : World} : ∀ {es : List DictEntry} {kvs : List (Key × V)} {vs : List (Key × Value)}, KV kvs vs → Pairs (mixKind P w) es vs →
    Vals (kvs.map fun p => kV p.1) (es.map (·.key)) ∧ Vals (kvs.map (·.2)) (es.map (·.val))
  | _, _, _, .nil, .nil => ⟨.nil, .nil⟩
  | _, (k, v) :: kvs, _, .cons (b := q) r t, .cons h1 h2 h3 => by
    obtain ⟨a, b⟩ := pairsD t h3
    obtain ⟨e1, e2⟩ := r
    have e1 : k = q.1 := e1
    refine ⟨.cons ?_ a, .cons ?_ b⟩
    · rw [← e1] at h1
      rcases keyIs_shape h1 with ⟨i, tk, x1, x2⟩ | ⟨i, tk, x1, x2⟩
      · rw [x1]
        exact ⟨tk, x2⟩
      · rw [x1]
        exact ⟨tk, x2⟩
    · show L2.RelV v _
      dsimp only
      rw [h2]; exact e2
theorem keysRD {K : PySem.W.Frag} : ∀ ks : List Key, RDs K ι H (ks.map keyD) (ks.map kV)
  | [] => .nil
  | .inl i :: ks => .cons (.int i) (keysRD ks)
  | .inr i :: ks => .cons (.str i) (keysRD ks)
theorem pairsT {P : Program} {w : World} {K : PySem.W.Frag} (hA : ∀ a : Addr, ¬ Adr.nil.av a) : ∀ {kvs : List (List Key × V)} {xs : List (List Key × Addr × Value)},
    Paired (fun (p : List Key × V) (q : List Key × Addr × Value) => p.1 = q.1 ∧ H q.2.1 = some (.tup (p.1.map kV)) ∧ RelV p.2 q.2.2) kvs xs →
    ∃ ks : List V, Vals ks ((xs.map (entryOfKey (tupleKind (mixKind P w)))).map (·.key)) ∧ RDs K .nil H (kvs.map fun p => .tuple (p.1.map keyD)) ks ∧
      Vals (kvs.map (·.2)) ((xs.map (entryOfKey (tupleKind (mixKind P w)))).map (·.val))
  | _, _, .nil => ⟨[], .nil, .nil, .nil⟩
  | _, _, .cons (a := p) (b := q) r t => by
    obtain ⟨ks, h1, h2, h3⟩ := pairsT hA t
    exact ⟨.ref q.2.1 :: ks, .cons rfl h1, .cons (.tup r.2.1 (hA _) (keysRD _)) h2, .cons r.2.2 h3⟩
/-- what a dict's object holds -/
theorem dict_at (I : Inv X pins σ H s) {a : Addr} {ds : List (PyData × PyData)} (h : RD X.K .nil H (.dict ds) (.ref a)) :
    ∃ o es n ks vs, s.heap.get? a = some o ∧ o.cls = .type "dict" ∧ o.data = .dict es n ∧ (a == sysModules) = false ∧
      Vals ks (es.toList.map (·.key)) ∧ Vals vs (es.toList.map (·.val)) ∧ RDs X.K .nil H (ds.map (·.1)) ks ∧ RDs X.K .nil H (ds.map (·.2)) vs := by
  cases h with
  | @dicK _ kvs _ h n e r =>
    obtain ⟨_, hs, vs, rel, o, es, ep, ho, hx, hd, _, hp, _⟩ := h.ok I.hok
    obtain ⟨p1, p2⟩ := pairsD rel hp
    refine ⟨o, es, ep, _, _, ho, hx.1, hd, hs, p1, p2, ?_, r⟩
    rw [e.2]
    have : kvs.map (fun p => keyD p.1) = (kvs.map (·.1)).map keyD := by rw [List.map_map]; rfl
    rw [this, show kvs.map (fun p => kV p.1) = (kvs.map (·.1)).map kV by rw [List.map_map]; rfl]
    exact keysRD _
  | @dicT _ kvs _ h n e r =>
    obtain ⟨_, hs, xs, rel, o, es, ep, ho, hx, hd, he, _⟩ := h.ok I.hok
    obtain ⟨ks, p1, p2, p3⟩ := pairsT (P := X.prog) (w := X.w) (K := X.K) Adr.nil_av rel
    refine ⟨o, es, ep, ks, _, ho, hx.1, hd, hs, by rw [he]; exact p1, by rw [he]; exact p3, ?_, r⟩
    rw [e]; exact p2

mutual
theorem RD.shows (I : Inv X pins σ H s) : ∀ (d : PyData) (v : V) (u : Value), RD X.K .nil H d v → RelV v u → d.showable = true → d.shown.length ≤ sizeLine →
    ∃ as bs, Reads s.heap u d as ∧ ReadAtMost s.heap d.depth bs ∧ ReprK X.prog X.w bs s.heap d.depth u d.shown
  | .none, _, _, h, r, _, _ => by
    cases h; cases r
    exact ⟨_, [], .none, (fun _ h => nomatch h), by simp only [PyData.shown]; exact ReprK.of_is .none _ _ _⟩
  | .bool b, _, _, h, r, _, _ => by
    cases h; cases r
    exact ⟨_, [], .bool b, (fun _ h => nomatch h), by simp only [PyData.shown]; exact ReprK.of_is (.bool b) _ _ _⟩
  | .int i, _, _, h, r, hs, _ => by
    cases h; obtain ⟨t, rfl⟩ := r
    exact ⟨_, [], .int i t, (fun _ h => nomatch h), by simp only [PyData.shown]; exact ReprK.of_is (.int t (by simpa [PyData.showable] using hs)) _ _ _⟩
  | .str x, _, _, h, r, _, hz => by
    cases h; obtain ⟨t, rfl⟩ := r
    exact ⟨_, [], .str x t, (fun _ h => nomatch h), by simp only [PyData.shown]; exact ReprK.of_is (.str x t (by simpa only [PyData.shown] using hz)) _ _ _⟩
  | .list ds, _, _, h, r, hs, hz => by
    cases h with
    | lst h n rs =>
      cases r
      obtain ⟨its, rv, ⟨o, k, ho, hc, _, hd⟩, _⟩ := I.list (SqL.of h)
      have hz2 : (listText (PyData.shownAll ds)).length ≤ sizeLine := by simpa only [PyData.shown] using hz
      obtain ⟨as, bs, ra, ha, hk⟩ := RDs.shows I ds _ its rs.free rv (by simpa [PyData.showable] using hs) fun t ht => Nat.le_trans (listText_mem_le ht) hz2
      have rr := Reads.list ho hc hd ra
      refine ⟨_, _, rr, ReadAtMost.cons rr (n := PyData.depthAll ds) (by simp only [PyData.depth]; omega) ha, ?_⟩
      have hna := not_mem_of_deeper rr (n := PyData.depthAll ds) (by simp only [PyData.depth]; omega) ha
      simp only [PyData.depth, PyData.shown]
      cases its with
      | nil =>
        cases ra
        simp only [PyData.shownAll, listText_nil]
        exact ReprK.listEmpty ho hc hd
      | cons y ys => exact ReprK.list ho hc hd hna (by simpa using hk.length_eq) fun i z e => hk.item i z (by simpa using e)
  | .tuple ds, _, _, h, r, hs, hz => by
    cases h with
    | tup h n rs =>
      cases r
      obtain ⟨its, rv, ⟨o, ho, hc, k, hd⟩, _⟩ := I.tuple (SqT.of h)
      have hz2 : (tupleText (PyData.shownAll ds)).length ≤ sizeLine := by simpa only [PyData.shown] using hz
      obtain ⟨as, bs, ra, ha, hk⟩ := RDs.shows I ds _ its rs.free rv (by simpa [PyData.showable] using hs) fun t ht => Nat.le_trans (tupleText_mem_le ht) hz2
      have rr := Reads.tuple ho hc hd ra
      refine ⟨_, _, rr, ReadAtMost.cons rr (n := PyData.depthAll ds) (by simp only [PyData.depth]; omega) ha, ?_⟩
      have hna := not_mem_of_deeper rr (n := PyData.depthAll ds) (by simp only [PyData.depth]; omega) ha
      simp only [PyData.depth, PyData.shown]
      exact ReprK.tuple ho hc hd hna hk
  | .dict kvs, v, _, h, r, hs, hz => by
    obtain ⟨a, rfl⟩ : ∃ a, v = .ref a := by cases h <;> exact ⟨_, rfl⟩
    cases r
    obtain ⟨o, es, n, ks, vs, ho, hc, hd, hsys, v1, v2, d1, d2⟩ := dict_at I h
    have hz2 : (dictText (PyData.shownKv kvs)).length ≤ sizeLine := by simpa only [PyData.shown] using hz
    obtain ⟨s1, s2⟩ := PyData.showableKv_split kvs (by simpa [PyData.showable] using hs)
    obtain ⟨a1, b1, r1, m1, k1⟩ := RKs.shows1 I kvs _ _ d1 v1 s1 fun t ht => let ⟨p, hp, hl⟩ := PyData.shownKv_key_le kvs t ht; Nat.le_trans hl (Nat.le_trans (dictText_mem_le hp) hz2)
    obtain ⟨a2, b2, r2, m2, k2⟩ := RKs.shows2 I kvs _ _ d2 v2 s2 fun t ht => let ⟨p, hp, hl⟩ := PyData.shownKv_val_le kvs t ht; Nat.le_trans hl (Nat.le_trans (dictText_mem_le hp) hz2)
    have rr := Reads.dict ho hc hd r1 r2
    have hb : ReadAtMost s.heap (PyData.depthKv kvs) (b1 ++ b2) := (m1.mono (PyData.depthAll_keys_le kvs)).append (m2.mono (PyData.depthAll_vals_le kvs))
    refine ⟨_, _, rr, ReadAtMost.cons rr (n := PyData.depthKv kvs) (by simp only [PyData.depth]; omega) hb, ?_⟩
    have hna := not_mem_of_deeper rr (n := PyData.depthKv kvs) (by simp only [PyData.depth]; omega) hb
    simp only [PyData.depth, PyData.shown, PyData.shownKv_eq]
    refine ReprK.dict ho hc hd hsys hna (ReprEntriesK.of_two es.toList _ _ ?_ ?_)
    · exact k1.more_le (fun b hb => List.mem_append_left _ hb) (PyData.depthAll_keys_le kvs)
    · exact k2.more_le (fun b hb => List.mem_append_right _ hb) (PyData.depthAll_vals_le kvs)
theorem RDs.shows (I : Inv X pins σ H s) : ∀ (ds : List PyData) (vs : List V) (us : List Value), RDs X.K .nil H ds vs → Vals vs us → PyData.showableAll ds = true → (∀ t ∈ PyData.shownAll ds, t.length ≤ sizeLine) →
    ∃ as bs, ReadsAll s.heap us ds as ∧ ReadAtMost s.heap (PyData.depthAll ds) bs ∧ ReprAllK X.prog X.w bs s.heap (PyData.depthAll ds) us (PyData.shownAll ds)
  | [], _, _, h, r, _, _ => by
    cases h; cases r
    exact ⟨_, [], .nil, (fun _ h => nomatch h), by simp only [PyData.shownAll]; exact .nil⟩
  | d :: ds, _, _, h, r, hs, hz => by
    cases h with
    | cons h1 h2 =>
      cases r with
      | cons r1 r2 =>
        simp only [PyData.showableAll, Bool.and_eq_true] at hs
        simp only [PyData.shownAll] at hz ⊢
        obtain ⟨a1, b1, q1, m1, k1⟩ := RD.shows I d _ _ h1 r1 hs.1 (hz _ (List.mem_cons_self ..))
        obtain ⟨a2, b2, q2, m2, k2⟩ := RDs.shows I ds _ _ h2 r2 hs.2 fun t ht => hz t (List.mem_cons_of_mem _ ht)
        refine ⟨_, b1 ++ b2, .cons q1 q2, (m1.mono ?_).append (m2.mono ?_), .cons ((k1.more fun b hb => List.mem_append_left _ hb).level_le ?_) (k2.more_le (fun b hb => List.mem_append_right _ hb) ?_)⟩
        all_goals simp only [PyData.depthAll]
        all_goals omega
theorem RKs.shows1 (I : Inv X pins σ H s) : ∀ (kvs : List (PyData × PyData)) (vs : List V) (us : List Value), RDs X.K .nil H (kvs.map (·.1)) vs → Vals vs us → PyData.showableAll (kvs.map (·.1)) = true → (∀ t ∈ PyData.shownAll (kvs.map (·.1)), t.length ≤ sizeLine) →
    ∃ as bs, ReadsAll s.heap us (kvs.map (·.1)) as ∧ ReadAtMost s.heap (PyData.depthAll (kvs.map (·.1))) bs ∧ ReprAllK X.prog X.w bs s.heap (PyData.depthAll (kvs.map (·.1))) us (PyData.shownAll (kvs.map (·.1)))
  | [], _, _, h, r, _, _ => by
    cases h; cases r
    exact ⟨_, [], .nil, (fun _ h => nomatch h), by simp only [PyData.shownAll, List.map_nil]; exact .nil⟩
  | (d, e) :: ds, _, _, h, r, hs, hz => by
    cases h with
    | cons h1 h2 =>
      cases r with
      | cons r1 r2 =>
        simp only [List.map_cons, PyData.showableAll, Bool.and_eq_true] at hs
        simp only [List.map_cons, PyData.shownAll] at hz ⊢
        obtain ⟨a1, b1, q1, m1, k1⟩ := RD.shows I d _ _ h1 r1 hs.1 (hz _ (List.mem_cons_self ..))
        obtain ⟨a2, b2, q2, m2, k2⟩ := RKs.shows1 I ds _ _ h2 r2 hs.2 fun t ht => hz t (List.mem_cons_of_mem _ ht)
        refine ⟨_, b1 ++ b2, .cons q1 q2, (m1.mono ?_).append (m2.mono ?_), .cons ((k1.more fun b hb => List.mem_append_left _ hb).level_le ?_) (k2.more_le (fun b hb => List.mem_append_right _ hb) ?_)⟩
        all_goals simp only [PyData.depthAll]
        all_goals omega
theorem RKs.shows2 (I : Inv X pins σ H s) : ∀ (kvs : List (PyData × PyData)) (vs : List V) (us : List Value), RDs X.K .nil H (kvs.map (·.2)) vs → Vals vs us → PyData.showableAll (kvs.map (·.2)) = true → (∀ t ∈ PyData.shownAll (kvs.map (·.2)), t.length ≤ sizeLine) →
    ∃ as bs, ReadsAll s.heap us (kvs.map (·.2)) as ∧ ReadAtMost s.heap (PyData.depthAll (kvs.map (·.2))) bs ∧ ReprAllK X.prog X.w bs s.heap (PyData.depthAll (kvs.map (·.2))) us (PyData.shownAll (kvs.map (·.2)))
  | [], _, _, h, r, _, _ => by
    cases h; cases r
    exact ⟨_, [], .nil, (fun _ h => nomatch h), by simp only [PyData.shownAll, List.map_nil]; exact .nil⟩
  | (e, d) :: ds, _, _, h, r, hs, hz => by
    cases h with
    | cons h1 h2 =>
      cases r with
      | cons r1 r2 =>
        simp only [List.map_cons, PyData.showableAll, Bool.and_eq_true] at hs
        simp only [List.map_cons, PyData.shownAll] at hz ⊢
        obtain ⟨a1, b1, q1, m1, k1⟩ := RD.shows I d _ _ h1 r1 hs.1 (hz _ (List.mem_cons_self ..))
        obtain ⟨a2, b2, q2, m2, k2⟩ := RKs.shows2 I ds _ _ h2 r2 hs.2 fun t ht => hz t (List.mem_cons_of_mem _ ht)
        refine ⟨_, b1 ++ b2, .cons q1 q2, (m1.mono ?_).append (m2.mono ?_), .cons ((k1.more fun b hb => List.mem_append_left _ hb).level_le ?_) (k2.more_le (fun b hb => List.mem_append_right _ hb) ?_)⟩
        all_goals simp only [PyData.depthAll]
        all_goals omega
end
end
end Lf

set_option Elab.async false
set_option linter.all false
set_option maxRecDepth 100000
set_option maxHeartbeats 4000000
/-! Built-in functions and methods. -/
namespace Lf
open PySem PySem.Spec PyProof.Rows L2

/-- what every frame of ours bears -/
structure Sur (X : Cx) : Prop where
  calm : X.calm = true
  nd : X.N.Nodup
  gd : X.A.guards = some []
  un : X.A.units + 180 < cLine

def rBl (K : PySem.W.Frag) (f : BF) : List V → Hp → VK → Prop := fun us H Q => ∃ (ι : Adr) (S : Store) (ds : List PyData) (out : Out),
  StOk K ι H S ∧ Paired (RC K ι H) ds us ∧ bltO f ds = some out ∧ Wish K ι H out Q
section
variable {X : Cx}
theorem pr1 {K : PySem.W.Frag} {ι : Adr} {H : Hp} {d : PyData} {us : List V} (h : Paired (RC K ι H) [d] us) : ∃ u, us = [u] ∧ RC K ι H d u := by
  cases h with
  | cons r t => cases t; exact ⟨_, rfl, r⟩
theorem pr2 {K : PySem.W.Frag} {ι : Adr} {H : Hp} {d e : PyData} {us : List V} (h : Paired (RC K ι H) [d, e] us) : ∃ u w, us = [u, w] ∧ RC K ι H d u ∧ RC K ι H e w := by
  cases h with
  | cons r t => cases t with
    | cons r' t' => cases t'; exact ⟨_, _, rfl, r, r'⟩
theorem RDs.bools {K : PySem.W.Frag} {ι : Adr} {H : Hp} : ∀ {xs us bs}, RDs K ι H xs us → asBools xs = some bs → us = bs.map V.bl
  | _, _, bs, .nil, e => by simp [asBools] at e; subst e; rfl
  | _, _, bs, .cons (x := x) (xs := xs) r t, e => by
    cases r <;> simp only [asBools] at e <;> try (cases e; done)
    cases q : asBools xs with
    | none => rw [q] at e; cases e
    | some cs =>
      rw [q] at e
      cases e
      rw [RDs.bools t q]; rfl
theorem blt_all (h : Sur X) : CallR X (.builtin "all") (rBl X.K .all) := by
  intro pins s σ H us vs Q I r ⟨ι, S, ds, out, ok, hd, e, hq⟩
  cases hd with
  | nil => cases e
  | cons hx t =>
    cases t with
    | cons _ _ => simp [bltO] at e
    | nil =>
      rename_i x u
      cases x <;> simp only [bltO] at e <;> try (cases e; done)
      cases q : asBools _ with
      | none => rw [q] at e; cases e
      | some bs =>
        rw [q] at e; cases e
        obtain ⟨a, ys, rfl, ha, ra⟩ := hx.lst
        refine cr_all h.calm pins s σ H _ vs Q I r ⟨a, bs, rfl, ?_, hq.d (.bl _)⟩
        rw [← ra.bools q]
        exact SqL.of ha
theorem blt_any (h : Sur X) : CallR X (.builtin "any") (rBl X.K .any) := by
  intro pins s σ H us vs Q I r ⟨ι, S, ds, out, ok, hd, e, hq⟩
  cases hd with
  | nil => cases e
  | cons hx t =>
    cases t with
    | cons _ _ => simp [bltO] at e
    | nil =>
      rename_i x u
      cases x <;> simp only [bltO] at e <;> try (cases e; done)
      cases q : asBools _ with
      | none => rw [q] at e; cases e
      | some bs =>
        rw [q] at e; cases e
        obtain ⟨a, ys, rfl, ha, ra⟩ := hx.lst
        refine cr_any h.calm pins s σ H _ vs Q I r ⟨a, bs, rfl, ?_, hq.d (.bl _)⟩
        rw [← ra.bools q]
        exact SqL.of ha
theorem blt_repr (h : Sur X) : CallR X (.builtin "repr") (rBl X.K .repr) := by
  intro pins s σ H us vs Q I r ⟨ι, S, ds, out, ok, hd, e, hq⟩
  obtain ⟨d, rfl, hs, hz, hdep, rfl⟩ : ∃ d, ds = [d] ∧ d.showable = true ∧ d.shown.length ≤ limR ∧ d.depth ≤ 64 ∧ out = .val (.d (.str d.shown)) := by
    match ds, e with
    | [d], e =>
      simp only [bltO] at e
      split at e
      · rename_i hc
        simp only [Bool.and_eq_true, decide_eq_true_eq] at hc
        exact ⟨d, rfl, hc.1.1, hc.1.2, hc.2, (Option.some.inj e).symm⟩
      · cases e
  obtain ⟨u, rfl, hu⟩ := pr1 hd
  obtain ⟨v, rfl, rv⟩ := vals1 r
  have fin : Q (.str d.shown) H := hq.d (.str _)
  have hz2 := Nat.le_trans hz (show limR ≤ sizeLine by rw [sizeLine_eq]; decide)
  obtain ⟨as, bs, rr, ha, hk⟩ := RD.shows I d u v hu.free rv hs hz2
  have hun := h.un
  cases d with
  | none => cases hu.none; cases rv; exact PySem.P.repr_of_none ⟨.str _, H, I.tok _, ⟨_, rfl⟩, fin⟩
  | bool b => cases hu.bool; cases rv; exact PySem.P.repr_of_bool ⟨.str _, H, I.tok _, ⟨s.toks, by simp only [PyData.shown]⟩, fin⟩
  | int i =>
    cases hu.int; obtain ⟨t, rfl⟩ := rv
    exact PySem.P.repr_of_int (by simpa [PyData.showable] using hs) ⟨.str _, H, I.tok _, ⟨s.toks, by simp only [PyData.shown]⟩, fin⟩
  | str x =>
    cases hu.str; obtain ⟨t, rfl⟩ := rv
    exact PySem.P.repr_of_str ⟨.str _, H, I.tok _, ⟨s.toks, by simp only [PyData.shown]⟩, fin⟩ (by simpa only [PyData.shown] using hz2)
  | list ds =>
    obtain ⟨a, ys, rfl, ha, ra⟩ := hu.lst
    cases rv
    obtain ⟨its, rw, ⟨o, k, ho, hc, _, hdt⟩, _⟩ := I.list (SqL.of ha)
    have hz3 : (listText (PyData.shownAll ds)).length ≤ sizeLine := by simpa only [PyData.shown] using hz2
    obtain ⟨as, bs, rs, hr, hk⟩ := RDs.shows I ds _ its ra.free rw (by simpa [PyData.showable] using hs) fun t ht => Nat.le_trans (listText_mem_le ht) hz3
    have hna := not_mem_of_deeper (Reads.list ho hc hdt rs) (n := PyData.depthAll ds) (by simp only [PyData.depth]; omega) hr
    simp only [PyData.depth] at hdep
    refine call_repr_slot (by omega) ⟨o, ho, hc⟩ F.slot_list_repr.toG ?_
    have done : ∀ h' u tk, (∀ b o, s.heap.get? b = some o → h'.get? b = some o) → EP X pins σ Q (.str (listText (PyData.shownAll ds)) u) { s with heap := h', toks := tk } := fun h' u tk hk' =>
      ⟨.str _, H, I.kept hk', ⟨u, rfl⟩, by simpa only [PyData.shown] using fin⟩
    cases its with
    | nil =>
      cases rs
      exact call_list_repr_empty ⟨o, ho, hc⟩ ho hdt ⟨_, _, rfl, done s.heap _ _ fun _ _ e => e⟩
    | cons y yl =>
      exact call_list_reprK ho hc hdt hna (by simpa using hk.length_eq) (fun i z e => hk.item i z (by simpa using e)) h.gd (fun b _ => Clear.nil b)
        (by show X.A.units + 1 + _ < cLine; omega) (fun _ _ e => e) (fun h' u tk hk' => ⟨_, _, rfl, done h' u tk hk'⟩) hz3
  | tuple ds =>
    obtain ⟨a, ys, rfl, ha, na, ra⟩ := hu.tup
    cases rv
    obtain ⟨its, rw, ⟨o, ho, hc, k, hdt⟩, _⟩ := I.tuple (SqT.of ha)
    have hz3 : (tupleText (PyData.shownAll ds)).length ≤ sizeLine := by simpa only [PyData.shown] using hz2
    obtain ⟨as, bs, rs, hr, hk⟩ := RDs.shows I ds _ its ra.free rw (by simpa [PyData.showable] using hs) fun t ht => Nat.le_trans (tupleText_mem_le ht) hz3
    have hna := not_mem_of_deeper (Reads.tuple ho hc hdt rs) (n := PyData.depthAll ds) (by simp only [PyData.depth]; omega) hr
    simp only [PyData.depth] at hdep
    refine call_repr_slot (by omega) ⟨o, ho, hc⟩ F.slot_tuple_repr ?_
    exact call_tuple_reprK ho hc hdt hna hk h.gd (fun b _ => Clear.nil b) (by show X.A.units + 1 + _ < cLine; omega) (fun _ _ e => e)
      (fun h' u tk hk' => ⟨_, _, rfl, .str _, H, I.kept hk', ⟨u, rfl⟩, by simpa only [PyData.shown] using fin⟩) hz3
  | dict kvs =>
    obtain ⟨a, rfl, _⟩ := hu.dct
    cases rv
    obtain ⟨o, es, n, ks, vs, ho, hc, hdt, hsys, v1, v2, d1, d2⟩ := dict_at I hu.free
    have hz3 : (dictText (PyData.shownKv kvs)).length ≤ sizeLine := by simpa only [PyData.shown] using hz2
    obtain ⟨s1, s2⟩ := PyData.showableKv_split kvs (by simpa [PyData.showable] using hs)
    obtain ⟨a1, b1, r1, m1, k1⟩ := RKs.shows1 I kvs _ _ d1 v1 s1 fun t ht => let ⟨p, hp, hl⟩ := PyData.shownKv_key_le kvs t ht; Nat.le_trans hl (Nat.le_trans (dictText_mem_le hp) hz3)
    obtain ⟨a2, b2, r2, m2, k2⟩ := RKs.shows2 I kvs _ _ d2 v2 s2 fun t ht => let ⟨p, hp, hl⟩ := PyData.shownKv_val_le kvs t ht; Nat.le_trans hl (Nat.le_trans (dictText_mem_le hp) hz3)
    have hb : ReadAtMost s.heap (PyData.depthKv kvs) (b1 ++ b2) := (m1.mono (PyData.depthAll_keys_le kvs)).append (m2.mono (PyData.depthAll_vals_le kvs))
    have hna := not_mem_of_deeper (Reads.dict ho hc hdt r1 r2) (n := PyData.depthKv kvs) (by simp only [PyData.depth]; omega) hb
    simp only [PyData.depth] at hdep
    simp only [PyData.shown, PyData.shownKv_eq] at fin
    rw [PyData.shownKv_eq] at hz3
    refine call_repr_slot (by omega) ⟨o, ho, hc⟩ F.slot_dict_repr ?_
    refine call_dict_reprK ho hc hdt hsys hna (ReprEntriesK.of_two es.toList _ _ (k1.more_le (fun b hb => List.mem_append_left _ hb) (PyData.depthAll_keys_le kvs)) (k2.more_le (fun b hb => List.mem_append_right _ hb) (PyData.depthAll_vals_le kvs)))
      h.gd (fun b _ => Clear.nil b) (by show X.A.units + 1 + _ < cLine; omega) (fun _ _ e => e) (fun h' u tk hk' => ⟨_, _, rfl, .str _, H, I.kept hk', ⟨u, rfl⟩, fin⟩) hz3
theorem blt_str (h : Sur X) : CallR X (.type "str") (rBl X.K .str) := by
  intro pins s σ H us vs Q I r ⟨ι, S, ds, out, ok, hd, e, hq⟩
  match ds, e with
  | [.int i], e =>
    simp only [bltO] at e
    split at e
    · rename_i hc
      cases e
      obtain ⟨u, rfl, hu⟩ := pr1 hd
      cases hu.int
      exact call_str_int pins s σ H _ vs Q I r ⟨i, rfl, hc, hq.d (.str _)⟩
    · cases e
  | [.bool b], e =>
    cases e
    obtain ⟨u, rfl, hu⟩ := pr1 hd
    cases hu.bool
    obtain ⟨v, rfl, rv⟩ := vals1 r
    cases rv
    exact PySem.P.str_of_bool ⟨.str _, H, I.tok _, ⟨_, rfl⟩, hq.d (.str _)⟩
theorem blt_int (h : Sur X) : CallR X (.type "int") (rBl X.K .int) := by
  intro pins s σ H us vs Q I r ⟨ι, S, ds, out, ok, hd, e, hq⟩
  match ds, e with
  | [.int i], e =>
    cases e
    obtain ⟨u, rfl, hu⟩ := pr1 hd
    cases hu.int
    exact call_int1 pins s σ H _ vs Q I r (.inl ⟨i, rfl, hq.d (.int _)⟩)
  | [.bool b], e =>
    cases e
    obtain ⟨u, rfl, hu⟩ := pr1 hd
    cases hu.bool
    exact call_int1 pins s σ H _ vs Q I r (.inr ⟨b, rfl, hq.d (.int _)⟩)
theorem blt_sorted (h : Sur X) : CallR X (.builtin "sorted") (rBl X.K .sorted) := by
  intro pins s σ H us vs Q I r ⟨ι, S, ds, out, ok, hd, e, hq⟩
  match ds, e with
  | [.list xs], e =>
    simp only [bltO] at e
    split at e
    · rename_i few
      obtain ⟨zs, e1, rfl⟩ := Option.map_eq_some_iff.mp e
      obtain ⟨u, rfl, hu⟩ := pr1 hd
      obtain ⟨a, ys, rfl, ha, ra⟩ := hu.lst
      have text : ∀ {xs us bs}, RDs X.K ι H xs us → asStrs xs = some bs → us = bs.map V.str := by
        intro xs
        induction xs with
        | nil => intro us bs r e; cases r; cases e; rfl
        | cons x xs ih =>
          intro us bs r e
          cases r with
          | cons r t =>
            cases r <;> simp only [asStrs] at e <;> try (cases e; done)
            obtain ⟨cs, e2, rfl⟩ := Option.map_eq_some_iff.mp e
            rw [ih t e2]; rfl
      have ey := text ra e1
      have back : ∀ zs : List Str, RDs X.K ι H (zs.map .str) (zs.map V.str) := fun zs => by
        induction zs with
        | nil => exact .nil
        | cons z zs ih => exact .cons (.str z) ih
      refine cr_sortedS pins s σ H _ vs Q I r ⟨a, zs, rfl, by rw [← ey]; exact SqL.of ha, ?_, fun ws p pm srt hp => ?_⟩
      · have l := ra.len
        rw [ey, List.length_map] at l
        omega
      · rw [sorted_one pm srt]
        exact hq.lst ok (back _) hp
    · cases e
theorem blt_list (h : Sur X) : CallR X (.type "list") (rBl X.K .list) := by
  intro pins s σ H us vs Q I r ⟨ι, S, ds, out, ok, hd, e, hq⟩
  match ds, e with
  | [.list xs], e =>
    cases e
    obtain ⟨u, rfl, hu⟩ := pr1 hd
    obtain ⟨a, ys, rfl, ha, ra⟩ := hu.lst
    exact call_list_of pins s σ H _ vs Q I r ⟨a, ys, rfl, .inl (SqL.of ha), fun l hl => hq.lst ok ra hl⟩
  | [.tuple xs], e =>
    cases e
    obtain ⟨u, rfl, hu⟩ := pr1 hd
    obtain ⟨a, ys, rfl, ha, na, ra⟩ := hu.tup
    exact call_list_of pins s σ H _ vs Q I r ⟨a, ys, rfl, .inr (SqT.of ha), fun l hl => hq.lst ok ra hl⟩
theorem blt_tuple (h : Sur X) : CallR X (.type "tuple") (rBl X.K .tuple) := by
  intro pins s σ H us vs Q I r ⟨ι, S, ds, out, ok, hd, e, hq⟩
  match ds, e with
  | [.list xs], e =>
    cases e
    obtain ⟨u, rfl, hu⟩ := pr1 hd
    obtain ⟨a, ys, rfl, ha, ra⟩ := hu.lst
    exact call_tuple_of pins s σ H _ vs Q I r ⟨a, ys, rfl, .inl ⟨SqL.of ha, fun l hl => hq.tup ok ra hl⟩⟩
  | [.tuple xs], e =>
    cases e
    obtain ⟨u, rfl, hu⟩ := pr1 hd
    obtain ⟨a, ys, rfl, ha, na, ra⟩ := hu.tup
    exact call_tuple_of pins s σ H _ vs Q I r ⟨a, ys, rfl, .inr ⟨SqT.of ha, hq.d (.tup ha na ra)⟩⟩
end
end Lf

set_option Elab.async false
set_option linter.all false
set_option maxRecDepth 100000
set_option maxHeartbeats 4000000
/-! Data in order: sorted, min, max. -/
namespace Lf
open PySem PySem.Spec PyProof.Rows L2
section
variable {X : Cx} {pins : List (Addr × Obj)} {σ : L2.St} {H : Hp} {s : Shared} {ι : Adr}
mutual
theorem RD.reads (I : Inv X pins σ H s) : ∀ (d : PyData) (v : V) (u : Value), RD X.K .nil H d v → RelV v u → PySem.W.alike d d = true → ∃ as, Reads s.heap u d as
  | .none, _, _, h, r, _ => by cases h; cases r; exact ⟨_, .none⟩
  | .bool b, _, _, h, r, _ => by cases h; cases r; exact ⟨_, .bool b⟩
  | .int i, _, _, h, r, _ => by cases h; obtain ⟨t, rfl⟩ := r; exact ⟨_, .int i t⟩
  | .str x, _, _, h, r, _ => by cases h; obtain ⟨t, rfl⟩ := r; exact ⟨_, .str x t⟩
  | .list ds, _, _, h, r, a => by
    cases h with
    | lst h n rs =>
      cases r
      obtain ⟨its, rv, ⟨o, k, ho, hc, _, hd⟩, _⟩ := I.list (SqL.of h)
      obtain ⟨as, ra⟩ := RDs.reads I ds _ its rs.free rv (by simpa [PySem.W.alike] using a)
      exact ⟨_, .list ho hc hd (by simpa using ra)⟩
  | .tuple ds, _, _, h, r, a => by
    cases h with
    | tup h n rs =>
      cases r
      obtain ⟨its, rv, ⟨o, ho, hc, k, hd⟩, _⟩ := I.tuple (SqT.of h)
      obtain ⟨as, ra⟩ := RDs.reads I ds _ its rs.free rv (by simpa [PySem.W.alike] using a)
      exact ⟨_, .tuple ho hc hd (by simpa using ra)⟩
  | .dict kvs, _, _, h, r, a => absurd a (by simp [PySem.W.alike])
theorem RDs.reads (I : Inv X pins σ H s) : ∀ (ds : List PyData) (vs : List V) (us : List Value), RDs X.K .nil H ds vs → Vals vs us → PySem.W.alikeAll ds ds = true → ∃ as, ReadsAll s.heap us ds as
  | [], _, _, h, r, _ => by cases h; cases r; exact ⟨_, .nil⟩
  | d :: ds, _, _, h, r, a => by
    obtain ⟨a1, a2⟩ := PySem.W.alike_all_cons a
    cases h with
    | cons h1 h2 =>
      cases r with
      | cons r1 r2 =>
        obtain ⟨_, q1⟩ := RD.reads I d _ _ h1 r1 a1
        obtain ⟨_, q2⟩ := RDs.reads I ds _ _ h2 r2 a2
        exact ⟨_, .cons q1 q2⟩
end
theorem alikeL_all {xs : List PyData} (h : alikeL xs = true) : (∀ x ∈ xs, ∀ y ∈ xs, PySem.W.alike x y = true) ∧ ∀ x ∈ xs, x ≠ .none := by
  unfold alikeL at h
  rw [List.all_eq_true] at h
  refine ⟨fun x hx y hy => ?_, fun x hx e => ?_⟩
  · have := h x hx
    rw [Bool.and_eq_true, List.all_eq_true] at this
    exact this.2 y hy
  · have := h x hx
    rw [e] at this
    simp [isNone] at this
theorem alike_self : ∀ {xs : List PyData}, (∀ x ∈ xs, PySem.W.alike x x = true) → PySem.W.alikeAll xs xs = true
  | [], _ => by simp [PySem.W.alikeAll]
  | x :: xs, h => by
    rw [PySem.W.alikeAll, Bool.and_eq_true]
    exact ⟨h x List.mem_cons_self, alike_self fun y hy => h y (List.mem_cons_of_mem _ hy)⟩
theorem sortB_all {xs : List PyData} (h : alikeL xs = true) (hs : sortB xs = true) : PySem.W.Sortable xs := by
  unfold sortB at hs
  rw [Bool.or_eq_true, List.all_eq_true, List.all_eq_true] at hs
  rcases hs with hs | hs
  · refine .inl fun d hd => ?_
    have := hs d hd
    split at this
    · exact ⟨_, _, rfl⟩
    · cases this
  · refine .inr fun d hd => ⟨(alikeL_all h).2 d hd, fun ys e => ?_⟩
    have := hs d hd
    rw [e] at this
    cases this
theorem depth_mem : ∀ {xs : List PyData} {d : PyData}, d ∈ xs → d.depth ≤ PyData.depthAll xs
  | x :: xs, d, h => by
    simp only [PyData.depthAll]
    rcases List.mem_cons.mp h with rfl | h
    · omega
    · have := depth_mem h
      omega
theorem rd_each {K : PySem.W.Frag} {h : Heap} : ∀ {xs : List PyData} {us : List V} {its : List Value} {as : List Addr}, RDs K ι H xs us → Vals us its → ReadsAll h its xs as →
    PySem.W.EachIs (fun v d => (∃ as, Reads h v d as) ∧ ∃ u, RelV u v ∧ RD K ι H d u) its xs
  | _, _, _, _, .nil, .nil, .nil => .nil
  | _, _, _, _, .cons r t, .cons e f, .cons a b => .cons ⟨⟨_, a⟩, _, e, r⟩ (rd_each t f b)
theorem each_back {K : PySem.W.Frag} {vs : List Value} {ds : List PyData} (h : PySem.W.EachIs (fun v d => ∃ u, RelV u v ∧ RD K ι H d u) vs ds) : ∃ us, Vals us vs ∧ RDs K ι H ds us := by
  induction h with
  | nil => exact ⟨[], .nil, .nil⟩
  | cons h _ ih =>
    obtain ⟨u, e, r⟩ := h
    obtain ⟨us, f, t⟩ := ih
    exact ⟨u :: us, .cons e f, .cons r t⟩
theorem blt_sortedR (h : Sur X) : CallR X (.builtin "sorted") (rBl X.K .sortedR) := by
  intro pins s σ H us vs Q I r ⟨ι, S, ds, out, ok, hd, e, hq⟩
  match ds, e with
  | [.list xs], e =>
    simp only [bltO] at e
    split at e
    · rename_i c
      cases e
      simp only [Bool.and_eq_true, decide_eq_true_eq] at c
      obtain ⟨⟨⟨c1, c2⟩, c3⟩, c4⟩ := c
      obtain ⟨al, nn⟩ := alikeL_all c1
      obtain ⟨u, rfl, hu⟩ := pr1 hd
      obtain ⟨a, ys, rfl, ha, ra⟩ := hu.lst
      obtain ⟨v, rfl, rv⟩ := vals1 r
      cases rv
      obtain ⟨its, rw, pl, hz⟩ := I.list (SqL.of ha)
      obtain ⟨as, rs⟩ := RDs.reads I xs _ its ra.free rw (alike_self fun x hx => al x hx x hx)
      have hz2 : its.length ≤ sizeLine := by rw [← rw.length]; exact hz
      have each := rd_each ra rw rs
      have hun := h.un
      have up : ∀ b o, s.heap.get? b = some o → (PySem.W.sortingHeap (PySem.W.copyHeap s.heap its) (s.heap.objs.size + 1) its).get? b = some o := fun b o => PySem.W.sorting_copy_old
      have each2 : PySem.W.EachIs (fun v d => ∃ as, Reads (PySem.W.sortingHeap (PySem.W.copyHeap s.heap its) (s.heap.objs.size + 1) its) v d as) its xs := each.mono fun v d z => let ⟨⟨as, q⟩, _⟩ := z; ⟨as, Reads.keeps up q⟩
      have srt := PySem.W.sortVals_each (κ := PySem.W.dataKind (PySem.W.sortingHeap (PySem.W.copyHeap s.heap its) (s.heap.objs.size + 1) its) xs) (rev := false) (ks := its) (bs := xs) PySem.W.keyToks (each.mono fun v d z => z.2)
        ((PySem.W.each_mem each2).mono fun v d z => let ⟨⟨as, q⟩, m⟩ := z; PySem.W.dataKind_some al m q)
      obtain ⟨us, e1, r1⟩ := each_back srt
      refine PySem.W.sorted_vals (κ := PySem.W.dataKind (PySem.W.sortingHeap (PySem.W.copyHeap s.heap its) (s.heap.objs.size + 1) its) xs) pl.isList
        (PySem.W.SortsAt.data (s := { s with heap := PySem.W.sortingHeap (PySem.W.copyHeap s.heap its) (s.heap.objs.size + 1) its }) each2 al (sortB_all c1 c2) fun d hd => ?_) hz2 ?_
      · have := depth_mem hd
        show X.A.units + 1 + 1 + d.depth < cLine
        omega
      · obtain ⟨ep, he⟩ := PyProof.Rows.sortedAll_at s.heap its (PySem.W.sortVals (PySem.W.dataKind (PySem.W.sortingHeap (PySem.W.copyHeap s.heap its) (s.heap.objs.size + 1) its) xs) false its its).toArray
        have hlen : us.length ≤ sizeLine := by rw [e1.length, PySem.W.sortVals_length false rfl]; exact hz2
        refine ⟨.ref _, upd H (s.heap.objs.size + 1) (.lst us), I.laid (t' := s.toks) (fun _ _ => PyProof.Rows.sortedAll_old) (Nat.le_succ _) ⟨hlen, _, ep, e1, he⟩, rfl, ?_⟩
        exact hq.lst ok r1 (I.hok.fresh (Nat.le_succ _))
    · cases e
theorem best_mem {f : PyData → PyData → Bool} : ∀ (xs : List PyData) (x : PyData), xs.foldl (fun a y => if f a y then y else a) x ∈ x :: xs
  | [], x => List.mem_cons_self
  | y :: ys, x => by
    rw [List.foldl_cons]
    have := best_mem (f := f) ys (if f x y then y else x)
    rcases List.mem_cons.mp this with e | m
    · rw [e]
      split
      · exact List.mem_cons_of_mem _ List.mem_cons_self
      · exact List.mem_cons_self
    · exact List.mem_cons_of_mem _ (List.mem_cons_of_mem _ m)
theorem vals_at : ∀ {us : List V} {vs : List Value} {i : Nat} {v : Value}, Vals us vs → vs[i]? = some v → ∃ u, us[i]? = some u ∧ RelV u v
  | _, _, _, _, .nil, e => by simp at e
  | _, _, 0, _, .cons r _, e => by simp at e; subst e; exact ⟨_, rfl, r⟩
  | _, _, i + 1, _, .cons _ t, e => by
    rw [List.getElem?_cons_succ] at e ⊢
    exact vals_at t e
theorem best_rd (I : Inv X pins σ H s) {xs : List PyData} {m : PyData} {ys : List V} {its : List Value} {i : Nat} {v : Value} {h' : Heap} {bs : List Addr} (al : ∀ x ∈ xs, ∀ y ∈ xs, PySem.W.alike x y = true) (hm : m ∈ xs) (ra : RDs X.K ι H xs ys) (rw : Vals ys its)
    (e : its.toArray[i]? = some v) (rd : Reads h' v m bs) (k : ∀ b o, s.heap.get? b = some o → h'.get? b = some o) : ∃ y, RelV y v ∧ RD X.K ι H m y := by
  have e : its[i]? = some v := by simpa using e
  obtain ⟨y, hy, ry⟩ := vals_at rw e
  obtain ⟨x, hx, rx⟩ := ra.getV hy
  have mem := List.mem_of_getElem? hx
  obtain ⟨as, q⟩ := RD.reads I x y v rx.free ry (al x mem x mem)
  have := PySem.W.alike_unique x m v _ _ (al x mem m hm) (Reads.keeps k q) rd
  exact ⟨y, ry, this ▸ rx⟩
theorem blt_minl (h : Sur X) : CallR X (.builtin "min") (rBl X.K .minl) := by
  intro pins s σ H us vs Q I r ⟨ι, S, ds, out, ok, hd, e, hq⟩
  match ds, e with
  | [.list (x :: xs)], e =>
    simp only [bltO] at e
    split at e
    · rename_i c
      cases e
      simp only [Bool.and_eq_true, decide_eq_true_eq] at c
      obtain ⟨al, nn⟩ := alikeL_all c.1
      obtain ⟨u, rfl, hu⟩ := pr1 hd
      obtain ⟨a, ys, rfl, ha, ra⟩ := hu.lst
      obtain ⟨v, rfl, rv⟩ := vals1 r
      cases rv
      obtain ⟨its, rw, pl, hz⟩ := I.list (SqL.of ha)
      obtain ⟨as, rs⟩ := RDs.reads I _ _ its ra.free rw (alike_self fun x hx => al x hx x hx)
      have hun := h.un
      refine PySem.W.min_list_data (I.ok.hd h.calm) pl.isList (by simpa using rs) ⟨al, nn⟩ (by have := c.2; omega) fun i v h' tk bs hi rd k => ?_
      obtain ⟨y, ry, q⟩ := best_rd I al (best_mem (f := fun a y => PySem.W.dataLt y a) xs x) ra rw hi rd k
      exact ⟨y, H, I.kept k, ry, hq.d q⟩
    · cases e
theorem blt_maxl (h : Sur X) : CallR X (.builtin "max") (rBl X.K .maxl) := by
  intro pins s σ H us vs Q I r ⟨ι, S, ds, out, ok, hd, e, hq⟩
  match ds, e with
  | [.list (x :: xs)], e =>
    simp only [bltO] at e
    split at e
    · rename_i c
      cases e
      simp only [Bool.and_eq_true, decide_eq_true_eq] at c
      obtain ⟨al, nn⟩ := alikeL_all c.1
      obtain ⟨u, rfl, hu⟩ := pr1 hd
      obtain ⟨a, ys, rfl, ha, ra⟩ := hu.lst
      obtain ⟨v, rfl, rv⟩ := vals1 r
      cases rv
      obtain ⟨its, rw, pl, hz⟩ := I.list (SqL.of ha)
      obtain ⟨as, rs⟩ := RDs.reads I _ _ its ra.free rw (alike_self fun x hx => al x hx x hx)
      have hun := h.un
      refine PySem.W.max_list_data (I.ok.hd h.calm) pl.isList (by simpa using rs) ⟨al, nn⟩ (by have := c.2; omega) fun i v h' tk bs hi rd k => ?_
      obtain ⟨y, ry, q⟩ := best_rd I al (best_mem (f := fun a y => PySem.W.dataLt a y) xs x) ra rw hi rd k
      exact ⟨y, H, I.kept k, ry, hq.d q⟩
    · cases e
/-! ### min, max of two texts -/
section
variable {P : Program} {w : World} {A : Around} {E : Value → Shared → Prop} {s : Shared} {x y : Str} {t u : Tok} {Q : Value → Shared → Prop}
def two (x y : Str) (i : Nat) : Str := if i = 0 then x else y
theorem two_at (i : Nat) (v : Value) (h : (#[Value.str x t, Value.str y u])[i]? = some v) : ∃ tk, v = .str (two x y i) tk := by
  match i, h with
  | 0, h => simp at h; exact ⟨t, h.symm⟩
  | 1, h => simp at h; exact ⟨u, h.symm⟩
  | i + 2, h => simp at h
theorem cmp_ltS : CmpOf P w A .Lt (fun i v => (#[Value.str x t, Value.str y u])[i]? = some v) (fun i j => decide ((two x y i).cps.toList < (two x y j).cps.toList)) := fun i j vi vj s Q E hi hj h => by
  obtain ⟨t1, rfl⟩ := two_at i vi hi
  obtain ⟨t2, rfl⟩ := two_at j vj hj
  exact PySem.P.lt_str h
theorem cmp_gtS : CmpOf P w A .Gt (fun i v => (#[Value.str x t, Value.str y u])[i]? = some v) (fun i j => decide ((two x y j).cps.toList < (two x y i).cps.toList)) := fun i j vi vj s Q E hi hj h => by
  obtain ⟨t1, rfl⟩ := two_at i vi hi
  obtain ⟨t2, rfl⟩ := two_at j vj hj
  exact PySem.P.gt_str h
theorem min_txts (hh : A.handled = none) (h : ∀ h' tk, (∀ c o, s.heap.get? c = some o → h'.get? c = some o) → Q (if y.cps.toList < x.cps.toList then .str y u else .str x t) { s with heap := h', toks := tk }) :
    wpAny (model P w) A (call (.builtin "min") [.str x t, .str y u]) Q E s := by
  have z : (s.heap.push { cls := .type "tuple", data := .seq #[.str x t, .str y u] }).IsTuple s.heap.objs.size #[.str x t, .str y u] := ⟨_, Heap.get?_push_size _ rfl, rfl, 0, rfl⟩
  have sz : (s.heap.push { cls := .type "tuple", data := .seq #[.str x t, .str y u] }).objs.size = s.heap.objs.size + 1 := Heap.size_push ..
  refine call_min_two (wpAny_pyIter_tuple z ?_)
  refine ⟨_, [_, s.heap.objs.size], [_], _, _, _, _, rfl, Walks.tuple (A := A.in1) hh _ s.heap.objs.size (by rw [sz]; exact Nat.ne_of_lt (Nat.lt_succ_self _)) #[.str x t, .str y u],
    ⟨⟨_, Heap.get?_push_size _ rfl, rfl, rfl⟩, z.push _⟩, fun c hc => ?_, by simp, cmp_ltS, fun v h' tk hP hk => ?_⟩
  · show c < ((s.heap.push _).push _).objs.size
    rw [Heap.size_push, sz]
    rcases List.mem_cons.mp hc with rfl | hc
    · rw [sz]; exact Nat.lt_succ_self _
    · rw [List.mem_singleton.mp hc]; exact Nat.lt_succ_of_lt (Nat.lt_succ_self _)
  · have old : ∀ c o, s.heap.get? c = some o → h'.get? c = some o := fun c o e => hk c o (fun m => by
      have lt := Heap.lt_size e
      have m : c = _ := List.mem_singleton.mp m
      rw [m, sz] at lt
      exact absurd (Nat.lt_of_succ_lt lt) (Nat.lt_irrefl _)) (Heap.get?_push_of_some _ (Heap.get?_push_of_some _ e))
    have q := h h' tk old
    have ev : v = if y.cps.toList < x.cps.toList then Value.str y u else Value.str x t := by
      have hP : (#[Value.str x t, Value.str y u])[if decide (y.cps.toList < x.cps.toList) = true then 1 else 0]? = some v := hP
      by_cases c : y.cps.toList < x.cps.toList
      · rw [if_pos c]
        rw [decide_eq_true c, if_pos rfl] at hP
        exact (Option.some.inj hP).symm
      · rw [if_neg c]
        rw [decide_eq_false c, if_neg (by decide)] at hP
        exact (Option.some.inj hP).symm
    rw [ev]; exact q
theorem max_txts (hh : A.handled = none) (h : ∀ h' tk, (∀ c o, s.heap.get? c = some o → h'.get? c = some o) → Q (if x.cps.toList < y.cps.toList then .str y u else .str x t) { s with heap := h', toks := tk }) :
    wpAny (model P w) A (call (.builtin "max") [.str x t, .str y u]) Q E s := by
  have z : (s.heap.push { cls := .type "tuple", data := .seq #[.str x t, .str y u] }).IsTuple s.heap.objs.size #[.str x t, .str y u] := ⟨_, Heap.get?_push_size _ rfl, rfl, 0, rfl⟩
  have sz : (s.heap.push { cls := .type "tuple", data := .seq #[.str x t, .str y u] }).objs.size = s.heap.objs.size + 1 := Heap.size_push ..
  refine call_max_two (wpAny_pyIter_tuple z ?_)
  refine ⟨_, [_, s.heap.objs.size], [_], _, _, _, _, rfl, Walks.tuple (A := A.in1) hh _ s.heap.objs.size (by rw [sz]; exact Nat.ne_of_lt (Nat.lt_succ_self _)) #[.str x t, .str y u],
    ⟨⟨_, Heap.get?_push_size _ rfl, rfl, rfl⟩, z.push _⟩, fun c hc => ?_, by simp, cmp_gtS, fun v h' tk hP hk => ?_⟩
  · show c < ((s.heap.push _).push _).objs.size
    rw [Heap.size_push, sz]
    rcases List.mem_cons.mp hc with rfl | hc
    · rw [sz]; exact Nat.lt_succ_self _
    · rw [List.mem_singleton.mp hc]; exact Nat.lt_succ_of_lt (Nat.lt_succ_self _)
  · have old : ∀ c o, s.heap.get? c = some o → h'.get? c = some o := fun c o e => hk c o (fun m => by
      have lt := Heap.lt_size e
      have m : c = _ := List.mem_singleton.mp m
      rw [m, sz] at lt
      exact absurd (Nat.lt_of_succ_lt lt) (Nat.lt_irrefl _)) (Heap.get?_push_of_some _ (Heap.get?_push_of_some _ e))
    have q := h h' tk old
    have ev : v = if x.cps.toList < y.cps.toList then Value.str y u else Value.str x t := by
      have hP : (#[Value.str x t, Value.str y u])[if decide (x.cps.toList < y.cps.toList) = true then 1 else 0]? = some v := hP
      by_cases c : x.cps.toList < y.cps.toList
      · rw [if_pos c]
        rw [decide_eq_true c, if_pos rfl] at hP
        exact (Option.some.inj hP).symm
      · rw [if_neg c]
        rw [decide_eq_false c, if_neg (by decide)] at hP
        exact (Option.some.inj hP).symm
    rw [ev]; exact q
end
theorem two_case {f : BF} (hf : f = .max2 ∨ f = .min2) {ds : List PyData} {out : Out} (e : bltO f ds = some out) : (∃ i j, ds = [.int i, .int j]) ∨ ∃ x y, ds = [.str x, .str y] := by
  rcases hf with rfl | rfl
  all_goals
    unfold bltO at e
    split at e <;> first | cases e | skip
    all_goals first | exact .inl ⟨_, _, rfl⟩ | exact .inr ⟨_, _, rfl⟩ | (simp at *)
theorem blt_max2 (h : Sur X) : CallR X (.builtin "max") (rBl X.K .max2) := by
  intro pins s σ H us vs Q I r ⟨ι, S, ds, out, ok, hd, e, hq⟩
  rcases two_case (.inl rfl) e with ⟨i, j, rfl⟩ | ⟨x, y, rfl⟩
  · cases e
    obtain ⟨u, w, rfl, h1, h2⟩ := pr2 hd
    cases h1.int; cases h2.int
    exact call_max2 h.calm pins s σ H _ vs Q I r ⟨i, j, rfl, hq.d (.int _)⟩
  · cases e
    obtain ⟨u, w, rfl, h1, h2⟩ := pr2 hd
    cases h1.str; cases h2.str
    obtain ⟨u, w', rfl, ⟨t, rfl⟩, ⟨t', rfl⟩⟩ := vals2 r
    refine max_txts (I.ok.hd h.calm) fun h' tk k => ⟨_, H, I.kept k, ?_, hq.d (.str _)⟩
    split <;> exact ⟨_, rfl⟩
theorem blt_min2 (h : Sur X) : CallR X (.builtin "min") (rBl X.K .min2) := by
  intro pins s σ H us vs Q I r ⟨ι, S, ds, out, ok, hd, e, hq⟩
  rcases two_case (.inr rfl) e with ⟨i, j, rfl⟩ | ⟨x, y, rfl⟩
  · cases e
    obtain ⟨u, w, rfl, h1, h2⟩ := pr2 hd
    cases h1.int; cases h2.int
    exact call_min2 h.calm pins s σ H _ vs Q I r ⟨i, j, rfl, hq.d (.int _)⟩
  · cases e
    obtain ⟨u, w, rfl, h1, h2⟩ := pr2 hd
    cases h1.str; cases h2.str
    obtain ⟨u, w', rfl, ⟨t, rfl⟩, ⟨t', rfl⟩⟩ := vals2 r
    refine min_txts (I.ok.hd h.calm) fun h' tk k => ⟨_, H, I.kept k, ?_, hq.d (.str _)⟩
    split <;> exact ⟨_, rfl⟩
end
end Lf

set_option Elab.async false
set_option linter.all false
set_option maxRecDepth 100000
set_option maxHeartbeats 4000000
/-! The readings of the small language. -/
namespace Lf
open PySem PySem.Spec PyProof.Rows L2

theorem PE.weak {X : Cx} {e : Expr} {t t' : TE} (h : PE X e t) (w : ∀ σ H Q, t' σ H Q → t σ H Q) : PE X e t' := ⟨fun pins s σ H Q I q => h.run pins s σ H Q I (w σ H Q q)⟩
theorem PT.weak {X : Cx} {e : Expr} {t t' : TT} (h : PT X e t) (w : ∀ σ H Q, t' σ H Q → t σ H Q) : PT X e t' := ⟨fun pins s σ H Q I q => h.run pins s σ H Q I (w σ H Q q)⟩
theorem PA.weak {X : Cx} {e : List Expr} {t t' : TA} (h : PA X e t) (w : ∀ σ H Q, t' σ H Q → t σ H Q) : PA X e t' := ⟨fun pos pins s σ H Q I q => h.run pos pins s σ H Q I (w σ H Q q)⟩
theorem PS.weak {X : Cx} {e : Stmt} {t t' : TS} (h : PS X e t) (w : ∀ D σ H, t' D σ H → t D σ H) : PS X e t' := ⟨fun pins s σ H Q I q => h.run pins s σ H Q I (w Q σ H q)⟩
theorem PSs.weak {X : Cx} {e : List Stmt} {t t' : TS} (h : PSs X e t) (w : ∀ D σ H, t' D σ H → t D σ H) : PSs X e t' := ⟨fun pins s σ H Q I q => h.run pins s σ H Q I (w Q σ H q)⟩

def tE (K : PySem.W.Frag) (er : ER) (m : Env → M Out) : TE := fun σ H Q => ∃ E S ι, EnvOk K ι H E σ ∧ StOk K ι H S ∧
  Post K er ι H (fun o S' ι' H' => ∀ u, OutOk K H ι' H' S' o u → Q u H') (m E S)
def tB (K : PySem.W.Frag) (er : ER) (m : Env → M Bool) : TT := fun σ H Q => ∃ E S ι, EnvOk K ι H E σ ∧ StOk K ι H S ∧
  Post K er ι H (fun b _ _ H' => Q b H') (m E S)
def tVs (K : PySem.W.Frag) (er : ER) (m : Env → M (List Vl)) : TA := fun σ H Q => ∃ E S ι, EnvOk K ι H E σ ∧ StOk K ι H S ∧
  Post K er ι H (fun vs _ ι' H' => ∀ us, Paired (Rep K ι' H') vs us → Q us H') (m E S)

theorem M.assoc {α β γ : Type} (m : M α) (g : α → M β) (f : β → M γ) : M.bind (M.bind m g) f = M.bind m fun a => M.bind (g a) f := by
  funext s
  unfold M.bind
  cases m s <;> rfl
theorem M.pure_bind {α β : Type} (a : α) (f : α → M β) : M.bind (M.pure a) f = f a := rfl
theorem val_bind {β : Type} (m : M Out) (f : Vl → M β) : M.bind (val m) f = M.bind m fun o => f (settle o) := by
  unfold val
  rw [M.assoc]
  rfl
theorem datum_bind {β : Type} (m : M Out) (f : PyData → M β) : M.bind (datum m) f = M.bind m fun o => M.bind (M.lift (settle o).asD) f := by
  unfold datum
  rw [M.assoc]

section
variable {K : PySem.W.Frag} {er : ER} {ι : Adr} {H : Hp} {S : Store} {E : Env} {σ : L2.St} {β : Type}
theorem useO {m : Env → M Out} {f : Out → M β} {G : β → Store → Adr → Hp → Prop} {Q : VK} (hE : EnvOk K ι H E σ) (hS : StOk K ι H S) (h : Post K er ι H G (M.bind (m E) f S))
    (k : ∀ o S1 ι1 H1 u, Step ι H ι1 H1 → StOk K ι1 H1 S1 → EnvOk K ι1 H1 E σ → OutOk K H ι1 H1 S1 o u → Post K er ι1 H1 G (f o S1) → Q u H1) : tE K er m σ H Q :=
  ⟨E, S, ι, hE, hS, h.bind.imp fun o S1 ι1 H1 st ok q u hu => k o S1 ι1 H1 u st ok (hE.mono st) hu q⟩
theorem useV {m : Env → M Out} {f : Vl → M β} {G : β → Store → Adr → Hp → Prop} {Q : VK} (hE : EnvOk K ι H E σ) (hS : StOk K ι H S) (h : Post K er ι H G (M.bind (val (m E)) f S))
    (k : ∀ v S1 ι1 H1 u, Step ι H ι1 H1 → StOk K ι1 H1 S1 → EnvOk K ι1 H1 E σ → Rep K ι1 H1 v u → Post K er ι1 H1 G (f v S1) → Q u H1) : tE K er m σ H Q := by
  rw [val_bind] at h
  exact useO hE hS h fun o S1 ι1 H1 u st ok he hu q => k _ S1 ι1 H1 u st ok he hu.settle q
theorem asD_d {v : Vl} {x : PyData} (h : v.asD = some x) : v = .d x := by
  cases v <;> simp [Vl.asD] at h
  rw [h]
theorem useD {m : Env → M Out} {f : PyData → M β} {G : β → Store → Adr → Hp → Prop} {Q : VK} (hE : EnvOk K ι H E σ) (hS : StOk K ι H S) (h : Post K er ι H G (M.bind (datum (m E)) f S))
    (k : ∀ x S1 ι1 H1 u, Step ι H ι1 H1 → StOk K ι1 H1 S1 → EnvOk K ι1 H1 E σ → RD K ι1 H1 x u → Post K er ι1 H1 G (f x S1) → Q u H1) : tE K er m σ H Q := by
  rw [datum_bind] at h
  refine useO hE hS h fun o S1 ι1 H1 u st ok he hu q => ?_
  obtain ⟨x, e, q⟩ := (Post.bind q).lift ok
  have hu := hu.settle
  rw [asD_d e] at hu
  exact k x S1 ι1 H1 u st ok he hu q
theorem useB {m : Env → M Bool} {f : Bool → M β} {G : β → Store → Adr → Hp → Prop} {Q : Bool → Hp → Prop} (hE : EnvOk K ι H E σ) (hS : StOk K ι H S) (h : Post K er ι H G (M.bind (m E) f S))
    (k : ∀ b S1 ι1 H1, Step ι H ι1 H1 → StOk K ι1 H1 S1 → EnvOk K ι1 H1 E σ → Post K er ι1 H1 G (f b S1) → Q b H1) : tB K er m σ H Q :=
  ⟨E, S, ι, hE, hS, h.bind.imp fun b S1 ι1 H1 st ok q => k b S1 ι1 H1 st ok (hE.mono st) q⟩
theorem useVs {m : Env → M (List Vl)} {f : List Vl → M β} {G : β → Store → Adr → Hp → Prop} {Q : List V → Hp → Prop} (hE : EnvOk K ι H E σ) (hS : StOk K ι H S) (h : Post K er ι H G (M.bind (m E) f S))
    (k : ∀ vs S1 ι1 H1 us, Step ι H ι1 H1 → StOk K ι1 H1 S1 → EnvOk K ι1 H1 E σ → Paired (Rep K ι1 H1) vs us → Post K er ι1 H1 G (f vs S1) → Q us H1) : tVs K er m σ H Q :=
  ⟨E, S, ι, hE, hS, h.bind.imp fun vs S1 ι1 H1 st ok q us hu => k vs S1 ι1 H1 us st ok (hE.mono st) hu q⟩
/-- the end of an operation that gives an Out -/
theorem fin_out {G : Out → Store → Adr → Hp → Prop} {o : Option Out} {Q : VK} {H0 : Hp} (h : Post K er ι H G (M.lift o S)) (ok : StOk K ι H S) (hd : ∀ a, H a = none → H0 a = none)
    (hG : ∀ out S' ι' H', G out S' ι' H' → ∀ u, OutOk K H0 ι' H' S' out u → Q u H') : ∃ out, o = some out ∧ Wish K ι H out Q := by
  cases o with
  | none => exact False.elim h
  | some out => exact ⟨out, rfl, fun u H' sm ho => hG out S ι H' (h ι H' (Step.same sm) (ok.same sm)) u ((ho.up ok sm).back hd)⟩
theorem fin_val {G : Out → Store → Adr → Hp → Prop} {x : PyData} {Q : VK} {u : V} {H0 : Hp} (h : Post K er ι H G (M.pure (.val (.d x)) S)) (ok : StOk K ι H S)
    (hG : ∀ out S' ι' H', G out S' ι' H' → ∀ u, OutOk K H0 ι' H' S' out u → Q u H') (r : RD K ι H x u) : Q u H := hG _ _ _ _ (Post.pure h ok) u r
end

section
variable {X : Cx} {er : ER} {C : CallT} {a b c : Expr} {x y z : Ex} {pos : Pos}
abbrev snd (X : Cx) (er : ER) (C : CallT) (e : Expr) (x : Ex) : Prop := PE X e (tE X.K er (ev C x))
abbrev sndT (X : Cx) (er : ER) (C : CallT) (e : Expr) (x : Ex) : Prop := PT X e (tB X.K er (evT C x))
abbrev sndVs (X : Cx) (er : ER) (C : CallT) (es : List Expr) (xs : Exs) : Prop := PA X es (tVs X.K er (evs C xs))

theorem snd_var {i : Nat} {n : Str} (hN : X.N[i]? = some n) (hv : Vis X.env.scope n) (h1 : (n == ("__debug__" : Str)) = false) (h2 : (n == ("__classdict__" : Str)) = false) : snd X er C (.Name n pos) (.var i) :=
  PE.weak (pe_var hN hv h1 h2) fun σ H Q ⟨E, S, ι, hE, hS, h⟩ => by
    unfold ev at h
    cases q : E[i]? with
    | none => rw [q] at h; exact False.elim h
    | some o =>
      cases o with
      | none => rw [q] at h; exact False.elim h
      | some v =>
        rw [q] at h
        obtain ⟨u, h1, h2⟩ := hE.2 i v q
        exact ⟨u, h1, Post.here h hS u h2⟩
theorem two_rd {f : PyData → PyData → Option Out} {m1 m2 : M Out} {K : PySem.W.Frag} {E S ι H σ} {er : ER} {Q : VK} {g1 g2 : Env → M Out} (e1 : g1 E = m1) (e2 : g2 E = m2) (hE : EnvOk K ι H E σ) (hS : StOk K ι H S)
    (h : Post K er ι H (fun o S' ι' H' => ∀ u, OutOk K H ι' H' S' o u → Q u H') (M.bind (val m1) (fun v => M.bind (val m2) fun w => M.bind (toDM v) fun x => M.bind (toDM w) fun y => M.lift (f x y)) S)) :
    tOp (rB K f) (tE K er g1) (tE K er g2) σ H Q := by
  subst e1 e2
  refine useV hE hS h fun v S1 ι1 H1 u st ok he hu q => useV he ok q fun w S2 ι2 H2 u2 st2 ok2 _ hu2 q => ?_
  obtain ⟨d1, e1, q⟩ := (Post.bind q).toD ok2
  obtain ⟨d2, e2, q⟩ := (Post.bind q).toD ok2
  obtain ⟨out, e3, w⟩ := fin_out q ok2 (fun p hp => st.dom p (st2.dom p hp)) fun _ _ _ _ g => g
  exact ⟨ι2, S2, d1, d2, out, ok2, (hu.mono st2).toD ok2 e1, hu2.toD ok2 e2, e3, w⟩
theorem snd_bin {o : BO} (ha : snd X er C a x) (hb : snd X er C b y) : snd X er C (.BinOp a (opB o) b pos) (.bin o x y) :=
  PE.weak (pe_op (op_bin o) ha hb) fun σ H Q ⟨E, S, ι, hE, hS, h⟩ => two_rd rfl rfl hE hS (by unfold ev at h; exact h)
theorem lift_bl {f : PyData → PyData → Option Bool} : (fun x y => M.bind (M.lift (f x y)) fun k => M.pure (.val (.d (.bool k)))) = fun x y => M.lift (bl1 f x y) := by
  funext x y s
  unfold bl1
  cases f x y <;> rfl
theorem snd_cmp {o : CO} (hu : Sur X) (ha : snd X er C a x) (hb : snd X er C b y) (hm : behindInMarks (opC o) b = false) : snd X er C (.Compare a [opC o] [b] pos) (.cmp o x y) :=
  PE.weak (pe_cmpR (op_cmpO o (by have := hu.un; omega)) ha hb hm) fun σ H Q ⟨E, S, ι, hE, hS, h⟩ => two_rd (f := bl1 (cmpO o)) rfl rfl hE hS (by
    unfold ev at h
    have e := lift_bl (f := cmpO o)
    have e' : ∀ x y, (M.bind (M.lift (cmpO o x y)) fun k => M.pure (.val (.d (.bool k)))) = M.lift (bl1 (cmpO o) x y) := fun x y => congrFun (congrFun e x) y
    simp only [e'] at h
    exact h)
end
end Lf

set_option Elab.async false
set_option linter.all false
set_option maxRecDepth 100000
set_option maxHeartbeats 4000000
/-! Expressions. -/
namespace Lf
open PySem PySem.Spec PyProof.Rows L2

def constD : Const → Option PyData
  | .none => some .none
  | .bool b => some (.bool b)
  | .int i => some (.int i)
  | .str s => some (.str s)
  | _ => none
section
variable {X : Cx} {er : ER} {C : CallT} {a b c : Expr} {es : List Expr} {x y z : Ex} {xs : Exs} {pos : Pos}
theorem fin_c {K : PySem.W.Frag} {E S ι H} {er : ER} {σ : L2.St} {Q : VK} {d : PyData} {u : V} (hE : EnvOk K ι H E σ) (hS : StOk K ι H S)
    (h : Post K er ι H (fun o S' ι' H' => ∀ u, OutOk K H ι' H' S' o u → Q u H') (M.pure (.val (.d d)) S)) (r : RD K ι H d u) : Q u H := Post.pure h hS u r
theorem snd_cst {k : Const} {j : Nat} {d : PyData} (e : constD k = some d) : snd X er C (.Constant k j pos) (.cst d) := by
  cases k <;> simp only [constD] at e <;> try (cases e; done)
  all_goals cases e
  · exact PE.weak pe_non fun σ H Q ⟨E, S, ι, hE, hS, h⟩ => fin_c hE hS (by unfold ev at h; exact h) .non
  · exact PE.weak pe_bl fun σ H Q ⟨E, S, ι, hE, hS, h⟩ => fin_c hE hS (by unfold ev at h; exact h) (.bl _)
  · exact PE.weak pe_int fun σ H Q ⟨E, S, ι, hE, hS, h⟩ => fin_c hE hS (by unfold ev at h; exact h) (.int _)
  · exact PE.weak pe_str fun σ H Q ⟨E, S, ι, hE, hS, h⟩ => fin_c hE hS (by unfold ev at h; exact h) (.str _)
def atomV1 : PyData → Option V
  | .none => some .non
  | .bool b => some (.bl b)
  | .int i => some (.int i)
  | .str s => some (.str s)
  | _ => none
theorem atomV1_rd {K ι H d v} (e : atomV1 d = some v) : RD K ι H d v := by
  cases d <;> simp only [atomV1] at e <;> try (cases e; done)
  all_goals cases e
  · exact .non
  · exact .bl _
  · exact .int _
  · exact .str _
theorem snd_glb {n : Str} {d : PyData} {v : V} {u : Value} (hg : Gl X n) (hm : X.mg n = some u) (e : atomV1 d = some v) (r : RelV v u) (hd : (n == ("__debug__" : Str)) = false) : snd X er C (.Name n pos) (.glb n d) :=
  PE.weak (pe_glob hg hm r hd) fun σ H Q ⟨E, S, ι, hE, hS, h⟩ => fin_c hE hS (by unfold ev at h; exact h) (atomV1_rd e)

/-! ### rows of expressions -/
theorem vs_nil : sndVs X er C [] .nil := PA.weak pa_nil fun σ H Q ⟨E, S, ι, hE, hS, h⟩ => by
  unfold evs at h
  exact Post.pure h hS [] .nil
theorem vs_cons (ha : snd X er C a x) (hr : sndVs X er C es xs) (hs : starEach (a :: es) X.env = (false, eval a X.env) :: starEach es X.env) : sndVs X er C (a :: es) (.cons x xs) :=
  PA.weak (pa_cons ha hr hs) fun σ H Q ⟨E, S, ι, hE, hS, h⟩ => by
    unfold evs at h
    refine useV hE hS h fun v S1 ι1 H1 u st ok he hu q => useVs he ok q fun vs S2 ι2 H2 us st2 ok2 _ hu2 q => ?_
    exact Post.pure q ok2 _ (.cons (hu.mono st2) hu2)
theorem allD_rd {K ι H} : ∀ {vs ds us}, Paired (Rep K ι H) vs us → allD vs = some ds → RDs K ι H ds us
  | _, ds, _, .nil, e => by simp [allD] at e; subst e; exact .nil
  | _, ds, _, .cons (a := .d x) (l₁ := vs) r t, e => by
    unfold allD at e
    cases q : allD vs with
    | none => rw [q] at e; cases e
    | some cs => rw [q] at e; cases e; exact .cons r (allD_rd t q)
  | _, ds, _, .cons (a := .ref n) r t, e => by simp [allD] at e
  | _, ds, _, .cons (a := .scr n) r t, e => by simp [allD] at e
theorem snd_tup {k : Nat} (h : sndVs X er C es xs) : snd X er C (.Tuple es k pos) (.tup xs) :=
  PE.weak (pe_tup h) fun σ H Q ⟨E, S, ι, hE, hS, h⟩ => by
    unfold ev at h
    refine useVs hE hS h fun vs S1 ι1 H1 us st ok he hu q => ?_
    obtain ⟨ds, e, q⟩ := (Post.bind q).lift ok
    obtain ⟨hl, q⟩ := Post.ite q
    obtain ⟨out, e2, w⟩ := fin_out (o := some (.val (.d (.tuple ds)))) q ok st.dom fun _ _ _ _ g => g
    cases e2
    have r := allD_rd hu e
    exact ⟨by rw [← r.len]; exact Nat.le_trans hl lim_line, fun p hp => w.tup ok r hp⟩
theorem snd_dis (h : sndVs X er C es xs) : snd X er C (.List es pos) (.dis xs) :=
  PE.weak (pe_lst h) fun σ H Q ⟨E, S, ι, hE, hS, h⟩ => by
    unfold ev at h
    refine useVs hE hS h fun vs S1 ι1 H1 us st ok he hu q => ?_
    obtain ⟨ds, e, q⟩ := (Post.bind q).lift ok
    obtain ⟨hl, q⟩ := Post.ite q
    obtain ⟨out, e2, w⟩ := fin_out (o := some (.lst ds)) q ok st.dom fun _ _ _ _ g => g
    cases e2
    have r := allD_rd hu e
    exact ⟨by rw [← r.len]; exact Nat.le_trans hl lim_line, fun p hp => w.lst ok r hp⟩
theorem mut_rd {K : PySem.W.Frag} {σ : L2.St} {H : Hp} {Q : VK} : tE K er (ev C (.mut x)) σ H Q → tE K er (ev C x) σ H Q := fun ⟨E, S, ι, hE, hS, h⟩ => by
  unfold ev at h
  refine ⟨E, S, ι, hE, hS, ?_⟩
  unfold M.bind at h
  cases q : ev C x E S with
  | stuck => rw [q] at h; exact h
  | exc c S' => rw [q] at h; exact h
  | ok o S1 =>
    rw [q] at h
    intro ι1 H1 st ok u hu
    have go : ∀ (p : Addr) (cl : Cell), u = .ref p → H p = none → ¬ ι1.av p → StOk K (ι1.push p) H1 (S1 ++ [some cl]) →
        Post K er ι H (fun o S' ι' H' => ∀ u, OutOk K H ι' H' S' o u → Q u H') (Res.ok (Out.val (.ref S1.length)) (S1 ++ [some cl])) → Q u H1 := fun p cl e h0 n sok h => by
      have hlen : S1.length = ι1.at_.length := sok.last.1
      refine h (ι1.push p) H1 ⟨Nat.le_trans st.len (by simp [Adr.push]), fun k a hk e => ?_, fun k a hk e => ?_, st.keep, st.hd, st.hm, st.dom⟩ sok u ⟨?_, fun a e' => ?_⟩
      · have e : (ι1.at_ ++ [some p])[k]? = some (some a) := e
        rw [List.getElem?_append_left (Nat.lt_of_lt_of_le hk st.len)] at e
        exact st.old k a hk e
      · have e : (ι1.at_ ++ [some p])[k]? = some (some a) := e
        by_cases q : k < ι1.at_.length
        · rw [List.getElem?_append_left q] at e
          exact st.new k a hk e
        · rw [List.getElem?_append_right (Nat.not_lt.mp q)] at e
          cases z : k - ι1.at_.length with
          | zero => rw [z] at e; simp at e; rw [← e]; exact h0
          | succ j => rw [z] at e; simp at e
      · rw [hlen]; simp [Adr.push]
      · have e' : (ι1.at_ ++ [some p])[S1.length]? = some (some a) := e'
        rw [hlen] at e'
        simp at e'
        rw [e, e']
    cases o with
    | val v => exact False.elim h
    | lst ds => obtain ⟨p, e, h0, n, sok⟩ := hu; exact go p _ e h0 n sok h
    | dct ds => obtain ⟨p, e, h0, n, sok⟩ := hu; exact go p _ e h0 n sok h

theorem snd_mut (ha : snd X er C a x) : snd X er C a (.mut x) := PE.weak ha fun σ H Q h => mut_rd h

/-! ### tests as values, numbers -/
theorem snd_neg (ha : snd X er C a x) : snd X er C (.UnaryOp .USub a pos) (.neg x) :=
  PE.weak (pe_un un_neg ha) fun σ H Q ⟨E, S, ι, hE, hS, h⟩ => by
    unfold ev at h
    refine useD hE hS h fun d S1 ι1 H1 u st ok he hu q => ?_
    cases d <;> try exact False.elim q
    cases hu
    exact ⟨_, rfl, fin_val q ok (fun _ _ _ _ g => g) (.int _)⟩
theorem snd_not (ha : snd X er C a x) : snd X er C (.UnaryOp .Not a pos) (.not x) :=
  PE.weak (pe_not ha) fun σ H Q ⟨E, S, ι, hE, hS, h⟩ => by
    unfold ev at h
    refine useD hE hS h fun d S1 ι1 H1 u st ok he hu q => ?_
    cases d <;> try exact False.elim q
    cases hu
    exact ⟨_, rfl, fin_val q ok (fun _ _ _ _ g => g) (.bl _)⟩
theorem out_back {K : PySem.W.Frag} {er : ER} {ι1 : Adr} {H H1 : Hp} {Q : VK} {r : Res Out} (hd : ∀ a, H1 a = none → H a = none)
    (q : Post K er ι1 H1 (fun o S' ι' H' => ∀ u, OutOk K H ι' H' S' o u → Q u H') r) : Post K er ι1 H1 (fun o S' ι' H' => ∀ u, OutOk K H1 ι' H' S' o u → Q u H') r :=
  q.imp fun o S' ι' H' _ _ g u hu => g u (hu.back hd)
theorem snd_and {rest : List Expr} (ha : snd X er C a x) (hb : snd X er C (.BoolOp .And (b :: rest) pos) y) : snd X er C (.BoolOp .And (a :: b :: rest) pos) (.and x y) :=
  PE.weak (pe_and ha hb) fun σ H Q ⟨E, S, ι, hE, hS, h⟩ => by
    unfold ev at h
    refine useD hE hS h fun d S1 ι1 H1 u st ok he hu q => ?_
    cases d <;> try exact False.elim q
    rename_i k
    cases hu
    refine ⟨k, rfl, ?_⟩
    cases k with
    | true => exact iteT ⟨E, S1, ι1, he, ok, out_back st.dom q⟩
    | false => exact iteF (fin_val q ok (fun _ _ _ _ g => g) (.bl _))
theorem snd_or {rest : List Expr} (ha : snd X er C a x) (hb : snd X er C (.BoolOp .Or (b :: rest) pos) y) : snd X er C (.BoolOp .Or (a :: b :: rest) pos) (.or x y) :=
  PE.weak (pe_or ha hb) fun σ H Q ⟨E, S, ι, hE, hS, h⟩ => by
    unfold ev at h
    refine useD hE hS h fun d S1 ι1 H1 u st ok he hu q => ?_
    cases d <;> try exact False.elim q
    rename_i k
    cases hu
    refine ⟨k, rfl, ?_⟩
    cases k with
    | false => exact iteF ⟨E, S1, ι1, he, ok, out_back st.dom q⟩
    | true => exact iteT (fin_val q ok (fun _ _ _ _ g => g) (.bl _))
theorem snd_one {op : BoolOp} (ha : snd X er C a x) : snd X er C (.BoolOp op [a] pos) x := pe_one ha
theorem snd_ite (ht : sndT X er C c z) (ha : snd X er C a x) (hb : snd X er C b y) : snd X er C (.IfExp c a b pos) (.ite z x y) :=
  PE.weak (pe_ifExp ht ha hb) fun σ H Q ⟨E, S, ι, hE, hS, h⟩ => by
    unfold ev at h
    refine useB hE hS h fun k S1 ι1 H1 st ok he q => ?_
    cases k with
    | true => exact iteT ⟨E, S1, ι1, he, ok, out_back st.dom q⟩
    | false => exact iteF ⟨E, S1, ι1, he, ok, out_back st.dom q⟩
theorem chn_rd {K : PySem.W.Frag} {E : Env} {S : Store} {ι : Adr} {H : Hp} {σ : L2.St} {Q : VK} {o o' : CO} (hE : EnvOk K ι H E σ) (hS : StOk K ι H S)
    (h : Post K er ι H (fun o S' ι' H' => ∀ u, OutOk K H ι' H' S' o u → Q u H') (ev C (.chn o o' x y z) E S)) :
    tChain (rB K (bl1 (cmpO o))) (rB K (bl1 (cmpO o'))) (tE K er (ev C x)) (tE K er (ev C y)) (tE K er (ev C z)) σ H Q := by
  unfold ev at h
  refine useD hE hS h fun d S1 ι1 H1 u st ok he hu q => useD he ok q fun d2 S2 ι2 H2 u2 st2 ok2 he2 hu2 q => ?_
  obtain ⟨k, ek, q⟩ := (Post.bind q).lift ok2
  refine ⟨ι2, S2, d, d2, .val (.d (.bool k)), ok2, .inl (hu.mono st2), .inl hu2, by unfold bl1; rw [ek]; rfl, fun w H3 sm hw => ?_⟩
  have hw : RD K ι2 H3 (.bool k) w := hw
  cases hw
  refine ⟨k, rfl, ?_⟩
  have q := q.same sm
  have ok3 := ok2.same sm
  have he3 := he2.mono (Step.same (ι := ι2) sm)
  have rd2 := hu2.mono (Step.same (ι := ι2) sm)
  have hd : ∀ a, H3 a = none → H a = none := fun a e => st.dom a (st2.dom a (sm.free e))
  cases k with
  | false => exact iteF (fin_val q ok3 (fun _ _ _ _ g => g) (.bl _))
  | true =>
    refine iteT (useD he3 ok3 q fun d3 S4 ι4 H4 u4 st4 ok4 he4 hu4 q => ?_)
    have e' := congrFun (congrFun (lift_bl (f := cmpO o')) d2) d3
    rw [e'] at q
    obtain ⟨out, e3, w⟩ := fin_out q ok4 (fun a e => hd a (st4.dom a e)) fun _ _ _ _ g => g
    exact ⟨ι4, S4, d2, d3, out, ok4, .inl (rd2.mono st4), .inl hu4, e3, w⟩
theorem snd_chn {o o' : CO} (hu : Sur X) (ha : snd X er C a x) (hb : snd X er C b y) (hc : snd X er C c z) (hm : lastMarks [opC o, opC o'] [b, c] = false) :
    snd X er C (.Compare a [opC o, opC o'] [b, c] pos) (.chn o o' x y z) :=
  PE.weak (pe_chain (op_cmpO o (by have := hu.un; omega)) (op_cmpO o' (by have := hu.un; omega)) ha hb hc hm) fun σ H Q ⟨E, S, ι, hE, hS, h⟩ => chn_rd hE hS h
end
end Lf

set_option Elab.async false
set_option linter.all false
set_option maxRecDepth 100000
set_option maxHeartbeats 4000000
/-! Expressions: places, slices, calls, tests. -/
namespace Lf
open PySem PySem.Spec PyProof.Rows L2
section
variable {X : Cx} {er : ER} {C : CallT} {a b c i : Expr} {es : List Expr} {x y z : Ex} {xs : Exs} {pos p p2 : Pos}
theorem snd_idx (hu : Sur X) (ha : snd X er C a x) (hi : snd X er C i y) (hp : PlainIx i) : snd X er C (.Subscript a i pos) (.idx x y) :=
  PE.weak (pe_ix (ix_ok (by have := hu.un; omega)) ha hi hp) fun σ H Q ⟨E, S, ι, hE, hS, h⟩ => by
    unfold ev at h
    refine useV hE hS h fun v S1 ι1 H1 u st ok he hu q => useD he ok q fun k S2 ι2 H2 u2 st2 ok2 _ hu2 q => ?_
    obtain ⟨d1, e1, q⟩ := (Post.bind q).toDw ok2
    obtain ⟨d2, e2, q⟩ := (Post.bind q).lift ok2
    exact ⟨ι2, d1, k, d2, (hu.mono st2).toDw ok2 e1, .inl hu2, e2, fun r hr => fin_val q ok2 (fun _ _ _ _ g => g) hr⟩
theorem snd_len (hg : Gl X "len") (hm : X.mg "len" = none) (ha : snd X er C a x) (hs : starEach [a] X.env = [(false, eval a X.env)]) : snd X er C (.Call (.Name "len" p) [a] [] pos) (.len x) :=
  PE.weak (pe_callB call_len hg hm PySem.boot_len (pa_cons ha pa_nil hs) (he := hs)) fun σ H Q ⟨E, S, ι, hE, hS, h⟩ => by
    unfold ev at h
    refine useV hE hS h fun v S1 ι1 H1 u st ok he hu q => ?_
    obtain ⟨d1, e1, q⟩ := (Post.bind q).toDw ok
    obtain ⟨n, e2, q⟩ := (Post.bind q).lift ok
    exact ⟨u, n, rfl, len_of (hu.toDw ok e1) e2, fin_val q ok (fun _ _ _ _ g => g) (.int _)⟩

/-! ### slices -/
def tOI (K : PySem.W.Frag) (er : ER) (ab : Bool) (m : Env → M Out) : TO := fun σ H Q => ∃ E S ι, EnvOk K ι H E σ ∧ StOk K ι H S ∧
  Post K er ι H (fun o _ _ H' => Q o H') (optI ab (datum (m E)) S)
abbrev sndO (X : Cx) (er : ER) (C : CallT) (e : Option Expr) (x : Ex) : Prop := PO X e (tOI X.K er (isAbs x) (ev C x))
theorem PO.weak {e : Option Expr} {t t' : TO} (h : PO X e t) (w : ∀ σ H Q, t' σ H Q → t σ H Q) : PO X e t' := ⟨fun pins s σ H Q I q => h.run pins s σ H Q I (w σ H Q q)⟩
theorem o_none : sndO X er C none (.cst .none) := PO.weak po_none fun σ H Q ⟨E, S, ι, hE, hS, h⟩ => Post.here (a := (none : Option Int)) h hS
theorem o_some (ha : snd X er C a x) (hx : isAbs x = false) : sndO X er C (some a) x := PO.weak (po_some ha) fun σ H Q ⟨E, S, ι, hE, hS, h⟩ => by
  rw [hx] at h
  unfold optI at h
  rw [if_neg (by decide)] at h
  refine useD hE hS h fun d S1 ι1 H1 u st ok he hu q => ?_
  obtain ⟨o, e, q⟩ := Post.lift q ok
  cases d <;> simp only [partO] at e <;> try (cases e; done)
  cases e
  cases hu
  exact ⟨_, rfl, q⟩
theorem useI {K : PySem.W.Frag} {ι : Adr} {H : Hp} {S : Store} {E : Env} {σ : L2.St} {β : Type} {ab : Bool} {m : Env → M Out} {f : Option Int → M β} {G : β → Store → Adr → Hp → Prop} {Q : Option Int → Hp → Prop}
    (hE : EnvOk K ι H E σ) (hS : StOk K ι H S) (h : Post K er ι H G (M.bind (optI ab (datum (m E))) f S))
    (k : ∀ o S1 ι1 H1, Step ι H ι1 H1 → StOk K ι1 H1 S1 → EnvOk K ι1 H1 E σ → Post K er ι1 H1 G (f o S1) → Q o H1) : tOI K er ab m σ H Q :=
  ⟨E, S, ι, hE, hS, h.bind.imp fun b S1 ι1 H1 st ok q => k b S1 ι1 H1 st ok (hE.mono st) q⟩
theorem snd_sl {lo hi : Option Expr} (ha : snd X er C a x) (hl : sndO X er C lo y) (hh : sndO X er C hi z) : snd X er C (.Subscript a (.Slice lo hi none p2) pos) (.sl x y z) :=
  PE.weak (pe_slice sl_ok ha hl hh) fun σ H Q ⟨E, S, ι, hE, hS, h⟩ => by
    unfold ev at h
    refine useV hE hS h fun v S1 ι1 H1 u st ok he hu q => useI he ok q fun l S2 ι2 H2 st2 ok2 he2 q => useI he2 ok2 q fun r S3 ι3 H3 st3 ok3 _ q => ?_
    obtain ⟨d1, e1, q⟩ := (Post.bind q).toD ok3
    obtain ⟨out, e3, w⟩ := fin_out q ok3 (fun p hp => st.dom p (st2.dom p (st3.dom p hp))) fun _ _ _ _ g => g
    exact ⟨ι3, S3, d1, out, ok3, ((hu.mono st2).mono st3).toD ok3 e1, e3, w⟩

/-! ### built-in functions -/
theorem toDs_rc {K : PySem.W.Frag} {ι : Adr} {H : Hp} {S : Store} {β : Type} {G : β → Store → Adr → Hp → Prop} (ok : StOk K ι H S) : ∀ {vs : List Vl} {us : List V} {f : List PyData → M β}, Paired (Rep K ι H) vs us → Post K er ι H G (M.bind (toDsM vs) f S) →
    ∃ ds, Paired (RC K ι H) ds us ∧ Post K er ι H G (f ds S)
  | _, _, f, .nil, h => ⟨[], .nil, h⟩
  | v :: vs, _, f, .cons r t, h => by
    unfold toDsM at h
    rw [M.assoc] at h
    obtain ⟨d, e, h⟩ := (Post.bind h).toD ok
    rw [M.assoc] at h
    obtain ⟨ds, h1, h2⟩ := toDs_rc ok t h
    exact ⟨d :: ds, .cons (r.toD ok e) h1, h2⟩
theorem blt_rd {f : BF} {K : PySem.W.Frag} {E S ι H} {σ : L2.St} {Q : VK} (hE : EnvOk K ι H E σ) (hS : StOk K ι H S)
    (h : Post K er ι H (fun o S' ι' H' => ∀ u, OutOk K H ι' H' S' o u → Q u H') (M.bind (evs C xs E) (fun vs => M.bind (toDsM vs) fun ds => M.lift (bltO f ds)) S)) :
    tCB (rBl K f) (tVs K er (evs C xs)) σ H Q :=
  useVs hE hS h fun vs S1 ι1 H1 us st ok he hu q => by
    obtain ⟨ds, hd, q⟩ := toDs_rc ok hu q
    obtain ⟨out, e3, w⟩ := fin_out q ok st.dom fun _ _ _ _ g => g
    exact ⟨ι1, S1, ds, out, ok, hd, e3, w⟩
theorem snd_bltB {f : BF} {n : Str} {id : String} (hc : CallR X (.builtin id) (rBl X.K f)) (hg : Gl X n) (hm : X.mg n = none) (hv : bootBuiltins n = some (.builtin id)) (ha : sndVs X er C (a :: es) xs)
    (hn : n ≠ "__name__") (hd : (n == ("__debug__" : Str)) = false) (he : starEach (a :: es) X.env = (false, eval a X.env) :: starEach es X.env) (hpl : (backTo pos (starEach es X.env)).any (·.1) = false) :
    snd X er C (.Call (.Name n p) (a :: es) [] pos) (.blt f xs) :=
  PE.weak (pe_callB hc hg hm hv ha hn hd he hpl) fun σ H Q ⟨E, S, ι, hE, hS, h⟩ => blt_rd hE hS (by unfold ev at h; exact h)
theorem snd_bltT {f : BF} {n : Str} {T : String} (hc : CallR X (.type T) (rBl X.K f)) (hg : Gl X n) (hm : X.mg n = none) (hv : bootBuiltins n = some (.type T)) (ha : sndVs X er C (a :: es) xs)
    (hn : n ≠ "__name__") (hd : (n == ("__debug__" : Str)) = false) (he : starEach (a :: es) X.env = (false, eval a X.env) :: starEach es X.env) (hpl : (backTo pos (starEach es X.env)).any (·.1) = false) :
    snd X er C (.Call (.Name n p) (a :: es) [] pos) (.blt f xs) :=
  PE.weak (pe_callTy hc hg hm hv ha hn hd he hpl) fun σ H Q ⟨E, S, ι, hE, hS, h⟩ => blt_rd hE hS (by unfold ev at h; exact h)

/-! ### a def of the text, by its values -/
def rFn (K : PySem.W.Frag) (er : ER) (C : CallT) (k : Nat) : List V → Hp → VK → Prop := fun us H Q => ∃ (vs : List Vl) (S : Store) (ι : Adr), StOk K ι H S ∧ Paired (Rep K ι H) vs us ∧
  Post K er ι H (fun o S' ι' H' => ∀ u, OutOk K H ι' H' S' o u → Q u H') (callM C k vs S)
theorem snd_call {k : Nat} {n : Str} {f : Addr} (hc : CallR X (.ref f) (rFn X.K er C k)) (hg : Gl X n) (hm : X.mg n = some (.ref f)) (hk : PySem.W.keepIn X.K (.ref f) = true) (ha : sndVs X er C (a :: es) xs)
    (hd : (n == ("__debug__" : Str)) = false) (he : starEach (a :: es) X.env = (false, eval a X.env) :: starEach es X.env) (hpl : (backTo pos (starEach es X.env)).any (·.1) = false) :
    snd X er C (.Call (.Name n p) (a :: es) [] pos) (.call k xs) := by
  refine ⟨fun pins s σ H Q I ⟨E, S, ι, hE, hS, h⟩ => ?_⟩
  unfold ev at h
  have rd : tCB (rFn X.K er C k) (tVs X.K er (evs C xs)) σ H Q := useVs hE hS h fun vs S1 ι1 H1 us st ok he hu q =>
    ⟨vs, S1, ι1, ok, hu, out_back st.dom q⟩
  refine wpAny_Call_Name_kw (ld_glob I hg hm ?_ hd)
  refine PySem.W.callWith_K (h₀ := X.base) I.ok.mod.kin hk (thn (ha.run pos pins s σ H _ I rd) fun us s1 ⟨vs, H1, I1, r, q⟩ => ⟨I1.kIn, ?_⟩) he hpl
  exact hc pins s1 σ H1 vs us Q I1 r q

/-! ### isinstance -/
def tyN : TY → String
  | .bool => "bool"
  | .int => "int"
  | .str => "str"
  | .list => "list"
  | .tuple => "tuple"
  | .dict => "dict"
def kindN : PyData → String
  | .none => "NoneType"
  | .bool _ => "bool"
  | .int _ => "int"
  | .str _ => "str"
  | .list _ => "list"
  | .tuple _ => "tuple"
  | .dict _ => "dict"
theorem kit_isa (d : PyData) (t : TY) : kitB (kindN d) (tyN t) = some (isaO d t) := by
  cases d <;> cases t <;> (simp only [kindN, tyN, isaO]; decide +kernel)
/-- .. wider again: a dict with tuple keys that is walked -/
inductive TyY (K : PySem.W.Frag) (H : Hp) : V → Value → Prop where
  | x {x : V} {t : Value} (h : TyX K H x t) : TyY K H x t
  | fT {a : Addr} {o : Obj} {kvs : List (List Key × V)} (e : H a = some (.frz o (.dT kvs))) : TyY K H (.ref a) (.type "dict")
theorem TyY.kit {pins : List (Addr × Obj)} {σ : L2.St} {H : Hp} {s : Shared} {x : V} {u t : Value} (I : Inv X pins σ H s) (rx : RelV x u) (ty : TyY X.K H x t) : ∃ P : Heap → Prop, PySem.W.KitX X.K u t P ∧ P s.heap ∧ u ≠ .builtin "__main__.__loader__#opaque" := by
  cases ty with
  | x h => exact kit_of I rx h
  | @fT a ob xs ea =>
    cases (show u = Value.ref a from rx)
    obtain ⟨_, _, _, vs, _, o, es, ep, h1, h2, _⟩ := (show ObjOk X.prog X.w H s.heap a (.frz ob (.dT xs)) from I.hok a _ ea)
    exact ⟨_, PySem.W.kitx_dict, ⟨o, h1, h2.1⟩, fun z => nomatch z⟩
def rIsi1 (K : PySem.W.Frag) : List V → Hp → VK → Prop := fun xs H Q => ∃ (x c : V) (t u : Value) (b : Bool), xs = [x, c] ∧ ClsV c u ∧ TyY K H x t ∧ PySem.W.kitOne K t u = some b ∧ Q (.bl b) H
def rIsiN (K : PySem.W.Frag) : List V → Hp → VK → Prop := fun xs H Q => ∃ (x : V) (tp : Addr) (cs : List V) (t : Value) (us : List Value) (b : Bool), xs = [x, .ref tp] ∧ H tp = some (.tup cs) ∧ Paired ClsV cs us ∧ TyY K H x t ∧ PySem.W.kitAny K t us = some b ∧ Q (.bl b) H
theorem cr_isi1 : CallR X (.builtin "isinstance") (rIsi1 X.K) := by
  intro pins s σ H xs us Q I r ⟨x, c, t, u, b, exs, k, ty, e, q⟩
  subst exs
  obtain ⟨u1, u2, rfl, r1, r2⟩ := vals2 r
  have e2 := k.eq r2
  subst e2
  obtain ⟨P, Z, p, hx⟩ := ty.kit I r1
  exact PySem.W.kia_one Z I.kIn p e hx fun tk => ⟨.bl b, H, I.tok tk, rfl, q⟩
theorem cr_isiN : CallR X (.builtin "isinstance") (rIsiN X.K) := by
  intro pins s σ H xs us Q I r ⟨x, tp, cs, t, ws, b, exs, hT, k, ty, e, q⟩
  subst exs
  obtain ⟨u1, u2, rfl, r1, r2⟩ := vals2 r
  cases (show u2 = Value.ref tp from r2)
  obtain ⟨P, Z, p, hx⟩ := ty.kit I r1
  obtain ⟨_, its, rv, o, h1, h2, n, h3⟩ := (show ObjOk X.prog X.w H s.heap tp (.tup cs) from I.hok tp _ hT)
  have e3 := ClsV.all k rv
  subst e3
  obtain ⟨oc, od, dt, sl⟩ := o
  simp only at h2 h3
  subst h2 h3
  exact PySem.W.kia_tup Z I.kIn p h1 e hx fun tk => ⟨.bl b, H, I.tok tk, rfl, q⟩
theorem rc_ty {K ι H d u} (h : RC K ι H d u) : TyY K H u (.type (kindN d)) := by
  cases d with
  | none => cases h.none; exact .x (.base .non)
  | bool b => cases h.bool; exact .x (.base (.bl _))
  | int i => cases h.int; exact .x (.base (.int _))
  | str x => cases h.str; exact .x (.base (.str _))
  | list xs => obtain ⟨a, ys, rfl, ha, _⟩ := h.lst; exact .x (.base (.lst ha))
  | tuple xs => obtain ⟨a, ys, rfl, ha, _⟩ := h.tup; exact .x (.base (.tup ha))
  | dict kvs =>
    obtain ⟨a, rfl, ⟨ks, hk, _⟩ | ⟨ks, hk, _⟩⟩ := h.dct
    · rcases hk with hk | ⟨o, hk⟩
      · exact .x (.base (.dK hk))
      · exact .x (.fDict hk)
    · rcases hk with hk | ⟨o, hk⟩
      · exact .x (.base (.dT hk))
      · exact .fT hk
theorem kit_any (d : PyData) {K : PySem.W.Frag} : ∀ ts : List TY, PySem.W.kitAny K (.type (kindN d)) (ts.map fun t => .type (tyN t)) = some (ts.any (isaO d))
  | [] => rfl
  | t :: ts => by
    refine kitAny_cons (kit_ty (kit_isa d t)) (fun h => ?_) fun h => ?_
    · rw [List.any_cons, h]; exact kit_any d ts
    · rw [List.any_cons, h]; rfl
/-- the classes' names, as a row of built-in names -/
structure Tys (X : Cx) (ts : List TY) (es : List Expr) : Prop where
  pa : ∃ t : TA, PA X es t ∧ ∀ σ H Q, Q (ts.map fun t => V.ty (tyN t)) H → t σ H Q
theorem tys_nil : Tys X [] [] := ⟨tNil, pa_nil, fun σ H Q h => h⟩
theorem tys_cons {t : TY} {ts : List TY} {n : Str} (e : n = Str.ofString (tyN t)) (hg : Gl X n) (hm : X.mg n = none) (hr : Tys X ts es)
    (hs : starEach (.Name n p :: es) X.env = (false, eval (.Name n p) X.env) :: starEach es X.env) : Tys X (t :: ts) (.Name n p :: es) := by
  obtain ⟨u, h1, h2⟩ := hr.pa
  have hv : bootBuiltins n = some (.type (tyN t)) := by subst e; cases t <;> decide +kernel
  have hn : n ≠ "__name__" := by subst e; cases t <;> decide +kernel
  have hd : (n == ("__debug__" : Str)) = false := by subst e; cases t <;> decide +kernel
  exact ⟨tCons (tC (.ty (tyN t))) u, pa_cons (pe_bltn hg hm hv rfl hn hd) h1 hs, fun σ H Q h => h2 σ H _ h⟩
theorem isi_rd {K : PySem.W.Frag} {E S ι H} {σ : L2.St} {Q : VK} {ts : List TY} (hE : EnvOk K ι H E σ) (hS : StOk K ι H S)
    (h : Post K er ι H (fun o S' ι' H' => ∀ u, OutOk K H ι' H' S' o u → Q u H') (ev C (.isa x ts) E S)) {Q' : V → Hp → Prop}
    (k : ∀ d S1 ι1 H1 u, StOk K ι1 H1 S1 → RC K ι1 H1 d u → (∀ H2, Same H1 H2 → Q (.bl (ts.any (isaO d))) H2) → Q' u H1) : tE K er (ev C x) σ H Q' := by
  unfold ev cont at h
  rw [M.assoc] at h
  refine useO hE hS h fun o S1 ι1 H1 u st ok he hu q => ?_
  obtain ⟨d, e, q⟩ := (Post.bind q).toD ok
  exact k d S1 ι1 H1 u ok (hu.settle.toD ok e) fun H2 sm => fin_val (q.same sm) (ok.same sm) (fun _ _ _ _ g => g) (.bl _)
theorem snd_isa1 {t : TY} {n : Str} (hg : Gl X "isinstance") (hm : X.mg "isinstance" = none) (ha : snd X er C a x) (e : n = Str.ofString (tyN t)) (hgn : Gl X n) (hmn : X.mg n = none)
    (hs : starEach [a, .Name n p2] X.env = (false, eval a X.env) :: starEach [.Name n p2] X.env) :
    snd X er C (.Call (.Name "isinstance" p) [a, .Name n p2] [] pos) (.isa x [t]) := by
  have hv : bootBuiltins n = some (.type (tyN t)) := by subst e; cases t <;> decide +kernel
  have hn : n ≠ "__name__" := by subst e; cases t <;> decide +kernel
  have hd : (n == ("__debug__" : Str)) = false := by subst e; cases t <;> decide +kernel
  refine PE.weak (pe_callB cr_isi1 hg hm (by decide +kernel) (pa_cons ha (pa_cons (pe_bltn (v := .ty (tyN t)) hgn hmn hv rfl hn hd) pa_nil) hs) (he := hs)) fun σ H Q ⟨E, S, ι, hE, hS, h⟩ => ?_
  refine isi_rd hE hS h fun d S1 ι1 H1 u ok hu q => ?_
  have q := q H1 (Same.refl H1)
  rw [List.any_cons, List.any_nil, Bool.or_false] at q
  exact ⟨u, _, _, _, _, rfl, .ty _, rc_ty hu, kit_ty (kit_isa d t), q⟩
theorem cls_all : ∀ ts : List TY, Paired ClsV (ts.map fun t => V.ty (tyN t)) (ts.map fun t => Value.type (tyN t))
  | [] => .nil
  | _ :: ts => .cons (.ty _) (cls_all ts)
theorem snd_isaT {ts : List TY} {k : Nat} {ns : List Expr} (hg : Gl X "isinstance") (hm : X.mg "isinstance" = none) (ha : snd X er C a x) (ht : Tys X ts ns) (hl : ts.length ≤ 10)
    (hs : starEach [a, .Tuple ns k p2] X.env = (false, eval a X.env) :: starEach [.Tuple ns k p2] X.env) :
    snd X er C (.Call (.Name "isinstance" p) [a, .Tuple ns k p2] [] pos) (.isa x ts) := by
  obtain ⟨t, h1, h2⟩ := ht.pa
  refine PE.weak (pe_callB cr_isiN hg hm (by decide +kernel) (pa_cons ha (pa_cons (pe_tup h1) pa_nil) hs) (he := hs)) fun σ H Q ⟨E, S, ι, hE, hS, h⟩ => ?_
  refine isi_rd hE hS h fun d S1 ι1 H1 u ok hu q => h2 σ H1 _ ⟨by rw [List.length_map]; exact Nat.le_trans hl (by decide), fun tp htp => ?_⟩
  refine ⟨u, tp, _, _, ts.map (fun t => .type (tyN t)), _, rfl, upd_same, ?_, rc_ty (hu.imp (fun r => r.mono (Step.same (same_upd htp))) fun z => z.imp (fun ⟨a, xs, e1, e2, c⟩ => ⟨a, xs, e1, e2, c.same (same_upd htp) (Step.same (same_upd htp))⟩)
    fun ⟨a, xs, e1, e2, c⟩ => ⟨a, xs, e1, e2, c.same (same_upd htp) (Step.same (same_upd htp))⟩), kit_any d ts, q _ (same_upd htp)⟩
  exact cls_all ts
end
end Lf

set_option Elab.async false
set_option linter.all false
set_option maxRecDepth 100000
set_option maxHeartbeats 4000000
/-! Targets, walked things, comprehensions. -/
namespace Lf
open PySem PySem.Spec PyProof.Rows L2

/-! ### what was laid stays, whatever is avoided -/
theorem Rd.map {ι ι' : Adr} {H H' : Hp} (f : ∀ a o, H a = some o → ¬ ι.av a → H' a = some o ∧ ¬ ι'.av a) {a : Addr} {u : HO} (h : Rd H a u) (n : ¬ ι.av a) : Rd H' a u ∧ ¬ ι'.av a := by
  rcases h with h | ⟨o, h⟩
  · exact ⟨.inl (f _ _ h n).1, (f _ _ h n).2⟩
  · exact ⟨.inr ⟨o, (f _ _ h n).1⟩, (f _ _ h n).2⟩
mutual
theorem RD.map {K : PySem.W.Frag} {ι ι' : Adr} {H H' : Hp} (f : ∀ a o, H a = some o → ¬ ι.av a → H' a = some o ∧ ¬ ι'.av a) : ∀ {x v}, RD K ι H x v → RD K ι' H' x v
  | _, _, .non => .non
  | _, _, .bl b => .bl b
  | _, _, .int i => .int i
  | _, _, .str x => .str x
  | _, _, .lst h n r => .lst (f _ _ h n).1 (f _ _ h n).2 (RDs.map f r)
  | _, _, .tup h n r => .tup (f _ _ h n).1 (f _ _ h n).2 (RDs.map f r)
  | _, _, .dicK h n e r => .dicK (Rd.map f h n).1 (Rd.map f h n).2 e (RDs.map f r)
  | _, _, .dicT h n e r => .dicT (Rd.map f h n).1 (Rd.map f h n).2 e (RDs.map f r)
theorem RDs.map {K : PySem.W.Frag} {ι ι' : Adr} {H H' : Hp} (f : ∀ a o, H a = some o → ¬ ι.av a → H' a = some o ∧ ¬ ι'.av a) : ∀ {x v}, RDs K ι H x v → RDs K ι' H' x v
  | _, _, .nil => .nil
  | _, _, .cons a b => .cons (RD.map f a) (RDs.map f b)
end
def Adr.hide (ι : Adr) (D : Addr) : Adr := ⟨ι.at_, fun a => ι.hid a ∨ a = D⟩
theorem hide_map {ι : Adr} {H H' : Hp} {D : Addr} (s : Same H H') (hD : H D = none) : ∀ a o, H a = some o → ¬ ι.av a → H' a = some o ∧ ¬ (ι.hide D).av a := fun a o h n =>
  ⟨s a o h, fun z => z.elim (fun z => n (.inl z)) fun z => z.elim (fun z => n (.inr z)) fun z => by rw [z, hD] at h; cases h⟩
theorem FzL.hide {K : PySem.W.Frag} {ι : Adr} {H H' : Hp} {D a : Addr} {ys : List V} (s : Same H H') (hD : H D = none) (h : FzL K ι H a ys) : FzL K (ι.hide D) H' a ys := by
  rcases h with ⟨h | ⟨o, h⟩, n⟩ | h
  · exact .inl ⟨.inl (hide_map s hD a _ h n).1, (hide_map s hD a _ h n).2⟩
  · exact .inl ⟨.inr ⟨o, (hide_map s hD a _ h n).1⟩, (hide_map s hD a _ h n).2⟩
  · exact .inr h
theorem Rep.hide {K : PySem.W.Frag} {ι : Adr} {H H' : Hp} {D : Addr} (s : Same H H') (hD : H D = none) : ∀ {v u}, Rep K ι H v u → Rep K (ι.hide D) H' v u
  | .d _, _, h => RD.map (hide_map s hD) h
  | .ref _, _, h => h
  | .scr _, _, ⟨a, e, h⟩ => ⟨a, e, h.hide s hD⟩
theorem CellOk.map {K : PySem.W.Frag} {ι ι' : Adr} {H H' : Hp} {a : Addr} (f : ∀ a o, H a = some o → ¬ ι.av a → H' a = some o ∧ ¬ ι'.av a) (e : H' a = H a) : ∀ {c}, CellOk K ι H a c → CellOk K ι' H' a c
  | .lst _, ⟨ys, h, r⟩ => ⟨ys, e.trans h, r.map f⟩
  | .dct _, .inl ⟨ys, h, e', r⟩ => .inl ⟨ys, e.trans h, e', r.map f⟩
  | .dct _, .inr ⟨ys, h, e', r⟩ => .inr ⟨ys, e.trans h, e', r.map f⟩
theorem CellOk.isSome {K : PySem.W.Frag} {ι : Adr} {H : Hp} {a : Addr} : ∀ {c}, CellOk K ι H a c → ∃ o, H a = some o ∧ ∀ ys, o ≠ .tup ys
  | .lst _, ⟨_, h, _⟩ => ⟨_, h, fun _ => nofun⟩
  | .dct _, .inl ⟨_, h, _⟩ => ⟨_, h, fun _ => nofun⟩
  | .dct _, .inr ⟨_, h, _⟩ => ⟨_, h, fun _ => nofun⟩
theorem StOk.hide {K : PySem.W.Frag} {ι : Adr} {H : Hp} {S : Store} {D : Addr} {o : HO} (ok : StOk K ι H S) (hD : H D = none) (ho : ∀ ys, o ≠ .tup ys) : StOk K (ι.hide D) (upd H D o) S where
  len := ok.len
  cell := fun n c e => by
    obtain ⟨a, h1, h2⟩ := ok.cell n c e
    refine ⟨a, h1, h2.map (hide_map (same_upd hD) hD) ?_⟩
    obtain ⟨o', e', _⟩ := h2.isSome
    rw [same_upd hD _ _ e', e']
  dead := ok.dead
  inj := ok.inj
  hid := fun a h => by
    rcases h with h | h
    · obtain ⟨n, o', e, q⟩ := ok.hid a h
      exact ⟨n, o', same_upd hD _ _ e, q⟩
    · subst h
      exact ⟨fun z => fresh_off ok hD (.inl z), o, upd_same, ho⟩
theorem EnvOk.hide {K : PySem.W.Frag} {ι : Adr} {H H' : Hp} {D : Addr} {E : Env} {σ : L2.St} (s : Same H H') (hD : H D = none) (h : EnvOk K ι H E σ) : EnvOk K (ι.hide D) H' E σ :=
  ⟨h.1, fun i v e => let ⟨u, h1, h2⟩ := h.2 i v e; ⟨u, h1, h2.hide s hD⟩⟩
theorem EnvOk.set {K : PySem.W.Frag} {ι : Adr} {H : Hp} {E : Env} {σ : L2.St} {i : Nat} {v : Vl} {u : V} (h : EnvOk K ι H E σ) (r : Rep K ι H v u) : EnvOk K ι H (E.set i (some v)) (σ.set i (some u)) := by
  refine ⟨by simp [h.1], fun j w e => ?_⟩
  by_cases q : i = j
  · subst q
    by_cases hl : i < E.length
    · rw [List.getElem?_set_self hl] at e
      cases e
      exact ⟨u, List.getElem?_set_self (by rw [← h.1]; exact hl), r⟩
    · rw [List.getElem?_eq_none (by simpa using hl)] at e; cases e
  · rw [List.getElem?_set_ne q] at e
    rw [List.getElem?_set_ne q]
    exact h.2 j w e
theorem EnvOk.unset {K : PySem.W.Frag} {ι : Adr} {H : Hp} {E : Env} {σ : L2.St} {i : Nat} (h : EnvOk K ι H E σ) : EnvOk K ι H (E.set i none) (σ.set i none) := by
  refine ⟨by simp [h.1], fun j w e => ?_⟩
  by_cases q : i = j
  · subst q
    by_cases hl : i < E.length
    · rw [List.getElem?_set_self hl] at e; cases e
    · rw [List.getElem?_eq_none (by simpa using hl)] at e; cases e
  · rw [List.getElem?_set_ne q] at e
    rw [List.getElem?_set_ne q]
    exact h.2 j w e
theorem EnvOk.wipe {K : PySem.W.Frag} {ι : Adr} {H : Hp} {E : Env} {σ : L2.St} (h : EnvOk K ι H E σ) : ∀ vs, EnvOk K ι H (wipeE E vs) (L2.wipe σ vs)
  | [] => h
  | v :: vs => (EnvOk.wipe h vs).unset

/-! ### targets -/
theorem wipe_set {σ : L2.St} {i : Nat} {o : Option V} : ∀ {vs : List Nat}, i ∈ vs → L2.wipe (σ.set i o) vs = L2.wipe σ vs
  | [], h => by simp at h
  | v :: vs, h => by
    unfold L2.wipe
    by_cases q : i ∈ vs
    · rw [wipe_set q]
    · have e : i = v := by
        rcases List.mem_cons.mp h with e | e
        · exact e
        · exact absurd e q
      subst e
      have : ∀ (ws : List Nat) (τ : L2.St), i ∉ ws → L2.wipe (τ.set i o) ws = (L2.wipe τ ws).set i o := fun ws => by
        induction ws with
        | nil => intro τ _; rfl
        | cons w ws ih =>
          intro τ hn
          simp only [List.mem_cons, not_or] at hn
          unfold L2.wipe
          rw [ih τ hn.2, List.set_comm _ _ hn.1]
      rw [this vs σ q, List.set_set]
def tG (K : PySem.W.Frag) (t : Tg) : TG := fun v σ H Q => ∃ E x S ι E', EnvOk K ι H E σ ∧ RD K ι H x v ∧ StOk K ι H S ∧ bindT t x E = some E' ∧
  ∀ σ', EnvOk K ι H E' σ' → (∀ vs, wipes vs t = true → L2.wipe σ' vs = L2.wipe σ vs) → Q σ' H
def tGs (K : PySem.W.Frag) (ts : Tgs) : TGs := fun us σ H Q => ∃ E xs S ι E', EnvOk K ι H E σ ∧ RDs K ι H xs us ∧ StOk K ι H S ∧ bindTs ts xs E = some E' ∧
  ∀ σ', EnvOk K ι H E' σ' → (∀ vs, wipes.wipess vs ts = true → L2.wipe σ' vs = L2.wipe σ vs) → Q σ' H
abbrev sndG (X : Cx) (e : Expr) (t : Tg) : Prop := PG X e (tG X.K t)
abbrev sndGs (X : Cx) (es : List Expr) (ts : Tgs) : Prop := PGs X es (tGs X.K ts)
section
variable {X : Cx} {er : ER} {C : CallT} {e : Expr} {es : List Expr} {pos : Pos}
theorem PG.weak {t t' : TG} (h : PG X e t) (w : ∀ v σ H Q, t' v σ H Q → t v σ H Q) : PG X e t' := ⟨fun pins s σ H v u Q I r q => h.run pins s σ H v u Q I r (w v σ H Q q)⟩
theorem PGs.weak {t t' : TGs} (h : PGs X es t) (w : ∀ v σ H Q, t' v σ H Q → t v σ H Q) : PGs X es t' := ⟨fun pins s σ H v u Q I r q => h.run pins s σ H v u Q I r (w v σ H Q q)⟩
theorem g_nm {i : Nat} {n : Str} (hN : X.N.Nodup) (hi : X.N[i]? = some n) (hx : Loc X.env.scope n) (hf : X.fn n = true ∨ X.env.scope.names.lookup n = some .local) : sndG X (.Name n pos) (.nm i) :=
  PG.weak (pg_name hN hi hx hf) fun v σ H Q ⟨E, x, S, ι, E', hE, hx, hS, hb, k⟩ => by
    have e : E.set i (some (.d x)) = E' := Option.some.inj hb
    subst e
    exact k _ (hE.set (v := .d x) hx) fun vs hv => wipe_set (by simpa [wipes] using hv)
theorem gs_nil : sndGs X [] .nil := PGs.weak pgs_nil fun v σ H Q ⟨E, xs, S, ι, E', hE, hx, hS, hb, k⟩ => by
  cases xs with
  | cons _ _ => simp [bindTs] at hb
  | nil =>
    cases hx
    simp [bindTs] at hb
    subst hb
    exact ⟨rfl, k σ hE fun _ _ => rfl⟩
theorem gs_cons {t : Tg} {ts : Tgs} (h1 : sndG X e t) (h2 : sndGs X es ts) (hs : (assignEach (e :: es) X.env).map (·.2) = assign e X.env :: (assignEach es X.env).map (·.2)) : sndGs X (e :: es) (.cons t ts) :=
  PGs.weak (pgs_cons h1 h2 hs) fun v σ H Q ⟨E, xs, S, ι, E', hE, hx, hS, hb, k⟩ => by
    cases xs with
    | nil => simp [bindTs] at hb
    | cons x xs =>
      unfold bindTs at hb
      cases q : bindT t x E with
      | none => rw [q] at hb; cases hb
      | some E1 =>
        rw [q] at hb
        cases hx with
        | cons r rs =>
          refine ⟨_, _, rfl, E, x, S, ι, E1, hE, r, hS, q, fun σ1 h1 w1 => ⟨E1, xs, S, ι, E', h1, rs, hS, hb, fun σ2 h2 w2 => k σ2 h2 fun vs hv => ?_⟩⟩
          have hv : (wipes vs t && wipes.wipess vs ts) = true := hv
          rw [Bool.and_eq_true] at hv
          rw [w2 vs hv.2, w1 vs hv.1]
theorem bindTs_len : ∀ {ts : Tgs} {xs : List PyData} {E E' : Env}, bindTs ts xs E = some E' → ∀ {n : Nat}, (∀ es : Tgs, True) → True := fun _ _ _ => trivial
def tgLen : Tgs → Nat
  | .nil => 0
  | .cons _ ts => tgLen ts + 1
theorem bindTs_length : ∀ {ts : Tgs} {xs : List PyData} {E E' : Env}, bindTs ts xs E = some E' → xs.length = tgLen ts
  | .nil, [], _, _, _ => rfl
  | .nil, _ :: _, _, _, h => by simp [bindTs] at h
  | .cons _ _, [], _, _, h => by simp [bindTs] at h
  | .cons t ts, x :: xs, E, E', h => by
    unfold bindTs at h
    cases q : bindT t x E with
    | none => rw [q] at h; cases h
    | some E1 =>
      rw [q] at h
      have := bindTs_length (xs := xs) h
      simp [tgLen, this]
theorem g_tp {ts : Tgs} {k : Nat} (hc : X.calm = true) (h : sndGs X es ts) (hn : (assignEach es X.env).length = tgLen ts) (hst : (assignEach es X.env).findIdx? (·.1) = none) : sndG X (.Tuple es k pos) (.tp ts) :=
  PG.weak (t := fun v σ H Q => gTup X.K (tgLen ts) (tGs X.K ts) v σ H Q ∨ gUnl X.K (tgLen ts) (tGs X.K ts) v σ H Q) ⟨fun pins s σ H v u Q I r q => q.elim ((pg_tup hc h hn hst).run pins s σ H v u Q I r) ((pg_unl hc h hn hst).run pins s σ H v u Q I r)⟩ fun v σ H Q ⟨E, x, S, ι, E', hE, hx, hS, hb, kk⟩ => by
    cases x <;> simp only [bindT] at hb <;> try (cases hb; done)
    · cases hx with
      | lst ha na r =>
        exact .inr ⟨_, _, rfl, SqL.of ha, by rw [← r.len]; exact bindTs_length hb, E, _, S, ι, E', hE, r, hS, hb, kk⟩
    · cases hx with
      | tup ha na r =>
        exact .inl ⟨_, _, rfl, SqT.of ha, by rw [← r.len]; exact bindTs_length hb, E, _, S, ι, E', hE, r, hS, hb, kk⟩

/-! ### walked things -/
def Src (K : PySem.W.Frag) (J : It) (ι : Adr) (H : Hp) (items : List PyData) : Prop := ∀ ι' H' S', Step ι H ι' H' → StOk K ι' H' S' → ∀ i : Nat,
  (∀ it, items[i]? = some it → J.go i H' ∧ ∀ x H'', J.yld i H' x H'' → Same H' H'' ∧ RD K ι' H'' it x) ∧ (items.length ≤ i → J.stop i H')
def tI (K : PySem.W.Frag) (er : ER) (m : Env → M (List PyData)) : TI := fun σ H R => ∃ E S ι, EnvOk K ι H E σ ∧ StOk K ι H S ∧
  Post K er ι H (fun items _ ι' H' => ∀ J, Src K J ι' H' items → R J H') (m E S)
abbrev sndI (X : Cx) (er : ER) (C : CallT) (tg iter : Expr) (it : Ir) : Prop := PI X tg iter (tI X.K er (evI C it))
theorem src_list {K : PySem.W.Frag} {ι : Adr} {H : Hp} {a : Addr} {xs : List PyData} {ys : List V} (ha : H a = some (.lst ys)) (na : ¬ ι.av a) (r : RDs K ι H xs ys) : Src K (Itl K a) ι H xs := fun ι' H' S' st ok i => by
  have h' := st.keep a _ ha fun z => na (.inl z)
  refine ⟨fun it hi => ?_, fun hl => ⟨ys, SqL.of h', by rw [← r.len]; exact hl⟩⟩
  obtain ⟨v, hv, rv⟩ := r.get hi
  refine ⟨⟨ys, v, SqL.of h', hv⟩, fun x H'' y => ?_⟩
  obtain ⟨e, y⟩ := y
  subst e
  have := y ys (SqL.of h')
  rw [hv] at this
  cases this
  exact ⟨Same.refl _, rv.mono st⟩
theorem src_tup {K : PySem.W.Frag} {ι : Adr} {H : Hp} {a : Addr} {xs : List PyData} {ys : List V} (ha : H a = some (.tup ys)) (na : ¬ ι.av a) (r : RDs K ι H xs ys) : Src K (Itt K a) ι H xs := fun ι' H' S' st ok i => by
  have h' := st.keep a _ ha fun z => na (.inl z)
  refine ⟨fun it hi => ?_, fun hl => ⟨ys, SqT.of h', by rw [← r.len]; exact hl⟩⟩
  obtain ⟨v, hv, rv⟩ := r.get hi
  refine ⟨⟨ys, v, SqT.of h', hv⟩, fun x H'' y => ?_⟩
  obtain ⟨e, y⟩ := y
  subst e
  have := y ys (SqT.of h')
  rw [hv] at this
  cases this
  exact ⟨Same.refl _, rv.mono st⟩
theorem src_str {K : PySem.W.Frag} {ι : Adr} {H : Hp} {z : Str} : Src K (Its z) ι H (z.cps.toList.map fun c => .str ⟨#[c]⟩) := fun ι' H' S' st ok i => by
  refine ⟨fun it hi => ?_, fun hl => by show z.cps.size ≤ i; simpa using hl⟩
  rw [List.getElem?_map] at hi
  cases q : z.cps.toList[i]? with
  | none => rw [q] at hi; cases hi
  | some c =>
    rw [q] at hi
    cases hi
    have hlt : i < z.cps.size := by simpa using (List.getElem?_eq_some_iff.mp q).1
    refine ⟨hlt, fun x H'' y => ?_⟩
    obtain ⟨e, c', hc, e2⟩ := y
    subst e e2
    rw [Array.getElem?_toList] at q
    rw [q] at hc
    cases hc
    exact ⟨Same.refl _, .str _⟩
theorem src_rng {K : PySem.W.Frag} {ι : Adr} {H : Hp} {lo : Int} {n : Nat} : Src K (Itr lo n) ι H ((List.range n).map fun (i : Nat) => PyData.int (lo + (i : Int))) := fun ι' H' S' st ok i => by
  refine ⟨fun it hi => ?_, fun hl => by show n ≤ i; simpa using hl⟩
  rw [List.getElem?_map] at hi
  cases q : (List.range n)[i]? with
  | none => rw [q] at hi; cases hi
  | some j =>
    rw [q] at hi
    cases hi
    obtain ⟨h1, h2⟩ := List.getElem?_eq_some_iff.mp q
    simp at h1 h2
    subst h2
    refine ⟨h1, fun x H'' y => ?_⟩
    obtain ⟨e, e2⟩ := y
    subst e e2
    exact ⟨Same.refl _, .int _⟩

theorem PI.weak {tg iter : Expr} {t t' : TI} (h : PI X tg iter t) (w : ∀ σ H R, t' σ H R → t σ H R) : PI X tg iter t' := ⟨fun pins s σ H R I q => h.run pins s σ H R I (w σ H R q)⟩
theorem i_x {tg a : Expr} {x : Ex} (ha : snd X er C a x) : sndI X er C tg a (.x x) := by
  refine ⟨fun pins s σ H R I ⟨E, S, ι, hE, hS, h⟩ => ?_⟩
  unfold evI at h
  rw [datum_bind] at h
  -- the kind of what is walked is known ahead
  have go : ∀ (T : V → Hp → Prop), (∀ o S1 ι1 H1 u d, ev C x E S = .ok o S1 → Step ι H ι1 H1 → StOk X.K ι1 H1 S1 → RD X.K ι1 H1 d u → (settle o).asD = some d →
      Post X.K er ι1 H1 (fun items _ ι' H' => ∀ J, Src X.K J ι' H' items → R J H') (M.lift (itemsO d) S1) → T u H1) → tE X.K er (ev C x) σ H T := fun T k => by
    refine ⟨E, S, ι, hE, hS, ?_⟩
    have hb := h.bind
    cases q : ev C x E S with
    | stuck => rw [q] at hb; exact hb
    | exc c S' => rw [q] at hb; exact hb
    | ok o S1 =>
      rw [q] at hb
      intro ι1 H1 st ok u hu
      obtain ⟨d, e, z⟩ := (Post.bind (hb ι1 H1 st ok)).lift ok
      have hu := hu.settle
      rw [asD_d e] at hu
      exact k o S1 ι1 H1 u d q st ok hu e z
  cases q : ev C x E S with
  | stuck => unfold M.bind at h; rw [q] at h; exact h.elim
  | exc c S' =>
    exact (pi_list (tg := tg) ha).run pins s σ H R I (go _ fun o S1 ι1 H1 u d e => by rw [q] at e; cases e)
  | ok o S1 =>
    cases qd : (settle o).asD with
    | none => unfold M.bind at h; rw [q] at h; simp only [qd] at h; exact h.elim
    | some d =>
      have same : ∀ {o' : Out} {S' : Store} {d' : PyData}, ev C x E S = .ok o' S' → (settle o').asD = some d' → d' = d := fun e1 e2 => by
        rw [q] at e1
        cases e1
        rw [qd] at e2
        exact (Option.some.inj e2).symm
      cases d with
      | list xs =>
        refine (pi_list (tg := tg) ha).run pins s σ H R I (go _ fun o' S' ι1 H1 u d' e1 st ok hu e2 z => ?_)
        cases same e1 e2
        cases hu with
        | lst hl hn r => exact ⟨_, rfl, ⟨_, SqL.of hl⟩, Post.pure z ok _ (src_list hl hn r)⟩
      | tuple xs =>
        refine (pi_tup (tg := tg) ha).run pins s σ H R I (go _ fun o' S' ι1 H1 u d' e1 st ok hu e2 z => ?_)
        cases same e1 e2
        cases hu with
        | tup hl hn r => exact ⟨_, rfl, ⟨_, SqT.of hl⟩, Post.pure z ok _ (src_tup hl hn r)⟩
      | str z =>
        refine (pi_str (tg := tg) ha).run pins s σ H R I (go _ fun o' S' ι1 H1 u d' e1 st ok hu e2 z => ?_)
        cases same e1 e2
        cases hu
        exact ⟨_, rfl, Post.pure z ok _ src_str⟩
      | none => exact ((pi_list (tg := tg) ha).run pins s σ H R I (go _ fun o' S' ι1 H1 u d' e1 st ok hu e2 z => by cases same e1 e2; exact z.elim))
      | bool b => exact ((pi_list (tg := tg) ha).run pins s σ H R I (go _ fun o' S' ι1 H1 u d' e1 st ok hu e2 z => by cases same e1 e2; exact z.elim))
      | int b => exact ((pi_list (tg := tg) ha).run pins s σ H R I (go _ fun o' S' ι1 H1 u d' e1 st ok hu e2 z => by cases same e1 e2; exact z.elim))
      | dict b => exact ((pi_list (tg := tg) ha).run pins s σ H R I (go _ fun o' S' ι1 H1 u d' e1 st ok hu e2 z => by cases same e1 e2; exact z.elim))
theorem i_rng {tg a : Expr} {x : Ex} {p : Pos} (hg : Gl X "range") (hm : X.mg "range" = none) (ha : snd X er C a x) (hs : starEach [a] X.env = [(false, eval a X.env)]) : sndI X er C tg (.Call (.Name "range" p) [a] [] pos) (.rng x) :=
  PI.weak (pi_range1 hg hm (pa_cons ha pa_nil hs) hs) fun σ H R ⟨E, S, ι, hE, hS, h⟩ => by
    unfold evI at h
    refine useD hE hS h fun d S1 ι1 H1 u st ok he hu q => ?_
    cases d <;> try exact False.elim q
    rename_i n
    cases hu
    obtain ⟨items, e, q⟩ := Post.lift q ok
    unfold rngL at e
    split at e
    · rename_i hb
      cases e
      refine ⟨n, rfl, by omega, by omega, q _ ?_⟩
      rw [Int.sub_zero]
      exact src_rng
    · cases e
theorem i_rng2 {tg a b : Expr} {x y : Ex} {p : Pos} (hg : Gl X "range") (hm : X.mg "range" = none) (ha : snd X er C a x) (hb : snd X er C b y) (hs : starEach [a, b] X.env = [(false, eval a X.env), (false, eval b X.env)]) (hs2 : starEach [b] X.env = [(false, eval b X.env)]) :
    sndI X er C tg (.Call (.Name "range" p) [a, b] [] pos) (.rng2 x y) :=
  PI.weak (pi_range2 hg hm (pa_cons ha (pa_cons hb pa_nil hs2) (by rw [hs, hs2])) hs hs2) fun σ H R ⟨E, S, ι, hE, hS, h⟩ => by
    unfold evI at h
    refine useD hE hS h fun d S1 ι1 H1 u st ok he hu q => useD he ok q fun d2 S2 ι2 H2 u2 st2 ok2 he2 hu2 q => ?_
    cases d <;> try exact False.elim q
    cases d2 <;> try exact False.elim q
    cases hu; cases hu2
    obtain ⟨items, e, q⟩ := Post.lift q ok2
    unfold rngL at e
    split at e
    · rename_i hb
      cases e
      exact ⟨_, _, rfl, ⟨by omega, by omega, by omega, by omega⟩, q _ src_rng⟩
    · cases e
end
end Lf

set_option Elab.async false
set_option linter.all false
set_option maxRecDepth 100000
set_option maxHeartbeats 4000000
/-! Comprehensions. -/
namespace Lf
open PySem PySem.Spec PyProof.Rows L2

def er0 : ER := fun _ _ => False
theorem noExc_post {K : PySem.W.Frag} {er : ER} {ι : Adr} {H : Hp} {S : Store} {α β : Type} {G : β → Store → Adr → Hp → Prop} {m : M α} {f : α → M β} (h : Post K er ι H G (M.bind (noExc m) f S)) :
    Post K er0 ι H (fun a S' ι' H' => Post K er ι' H' G (f a S')) (m S) := by
  have h := h.bind
  unfold noExc at h
  cases q : m S with
  | ok a S' => rw [q] at h; exact h
  | exc c S' => rw [q] at h; exact h.elim
  | stuck => rw [q] at h; exact h.elim
theorem upd_id {H : Hp} {D : Addr} {o : HO} (h : H D = some o) : upd H D o = H := by
  funext b
  unfold upd
  by_cases q : b = D
  · rw [if_pos q, q, h]
  · rw [if_neg q]
theorem CellOk.conv {K : PySem.W.Frag} {ι ι' : Adr} {H H' : Hp} {a : Addr} {c : Cell} (h : CellOk K ι H a c) (f : ∀ a o, H a = some o → ¬ ι.av a → H' a = some o ∧ ¬ ι'.av a) (e : H' a = H a) : CellOk K ι' H' a c := h.map f e
theorem StOk.conv {K : PySem.W.Frag} {ι ι' : Adr} {H H' : Hp} {S : Store} (ok : StOk K ι H S) (ha : ι'.at_ = ι.at_) (f : ∀ a o, H a = some o → ¬ ι.av a → H' a = some o ∧ ¬ ι'.av a)
    (hc : ∀ a, some a ∈ ι.at_ → H' a = H a) (hh : ∀ a, ι'.hid a → some a ∉ ι.at_ ∧ ∃ o, H' a = some o ∧ ∀ ys, o ≠ .tup ys) : StOk K ι' H' S where
  len := by rw [ha]; exact ok.len
  cell := fun n c e => by
    obtain ⟨a, h1, h2⟩ := ok.cell n c e
    exact ⟨a, by rw [ha]; exact h1, h2.map f (hc a (mem_at.mpr ⟨n, h1⟩))⟩
  dead := fun n e => by rw [ha]; exact ok.dead n e
  inj := fun n m a => by rw [ha]; exact ok.inj n m a
  hid := fun a h => by rw [ha]; exact hh a h
theorem StOk.unhide {K : PySem.W.Frag} {ι : Adr} {H : Hp} {S : Store} {p : Addr} {c : Cell} (ok : StOk K (ι.hide p) H S) (hc : CellOk K (ι.hide p) H p c) (hn : ¬ ι.hid p) : StOk K (ι.push p) H (S ++ [some c]) := by
  have np : some p ∉ ι.at_ := (ok.hid p (.inr rfl)).1
  have f : ∀ a o, H a = some o → ¬ (ι.hide p).av a → H a = some o ∧ ¬ (ι.push p).av a := fun a o h n => ⟨h, fun z => n (z.elim (fun z => by
    rcases List.mem_append.mp z with z | z
    · exact .inl z
    · simp at z; exact .inr (.inr z)) fun z => .inr (.inl z))⟩
  have hl : S.length = ι.at_.length := ok.len
  have at_p : ∀ (k : Nat) (a : Addr), (ι.at_ ++ [some p])[k]? = some (some a) → (ι.at_[k]? = some (some a)) ∨ (k = ι.at_.length ∧ a = p) := fun k a e => by
    by_cases q : k < ι.at_.length
    · rw [List.getElem?_append_left q] at e; exact .inl e
    · rw [List.getElem?_append_right (Nat.not_lt.mp q)] at e
      cases z : k - ι.at_.length with
      | zero => rw [z] at e; simp at e; exact .inr ⟨by omega, e.symm⟩
      | succ j => rw [z] at e; simp at e
  have up : ∀ {k : Nat} {o : Option Addr}, ι.at_[k]? = some o → (ι.at_ ++ [some p])[k]? = some o := fun {k o} e => by
    rw [List.getElem?_append_left (List.getElem?_eq_some_iff.mp e).1]; exact e
  have down : ∀ {k : Nat} {o : Option Cell}, (S ++ [some c])[k]? = some o → S[k]? = some o ∨ (k = S.length ∧ o = some c) := fun {k o} e => by
    by_cases q : k < S.length
    · rw [List.getElem?_append_left q] at e; exact .inl e
    · rw [List.getElem?_append_right (Nat.not_lt.mp q)] at e
      cases z : k - S.length with
      | zero => rw [z] at e; simp at e; exact .inr ⟨by omega, e.symm⟩
      | succ j => rw [z] at e; simp at e
  refine ⟨by simp [Adr.push, hl], fun n d e => ?_, fun n e => ?_, fun n m a h1 h2 => ?_, fun a h => ?_⟩
  · rcases down e with e | ⟨e1, e2⟩
    · obtain ⟨a, h1, h2⟩ := ok.cell n d e
      exact ⟨a, up h1, h2.map f rfl⟩
    · cases e2
      refine ⟨p, ?_, hc.map f rfl⟩
      show (ι.at_ ++ [some p])[n]? = _
      rw [e1, hl]; simp
  · rcases down e with e | ⟨e1, e2⟩
    · exact up (ok.dead n e)
    · cases e2
  · rcases at_p n a h1 with e1 | ⟨e1, q1⟩ <;> rcases at_p m a h2 with e2 | ⟨e2, q2⟩
    · exact ok.inj n m a e1 e2
    · subst q2; exact absurd (mem_at.mpr ⟨n, e1⟩) np
    · subst q1; exact absurd (mem_at.mpr ⟨m, e2⟩) np
    · omega
  · obtain ⟨h1, h2⟩ := ok.hid a (.inl h)
    refine ⟨fun z => ?_, h2⟩
    rcases List.mem_append.mp z with z | z
    · exact h1 z
    · simp at z; subst z; exact hn h
/-- what is hidden may be laid otherwise -/
theorem hid_map {ι : Adr} {H : Hp} {D : Addr} {o' : HO} (hD : ι.hid D) : ∀ a o, H a = some o → ¬ ι.av a → upd H D o' a = some o ∧ ¬ ι.av a := fun a o h n =>
  ⟨by rw [upd_ne (fun e : a = D => n (.inr (by rw [e]; exact hD)))]; exact h, n⟩
theorem StOk.rehid {K : PySem.W.Frag} {ι : Adr} {H : Hp} {S : Store} {D : Addr} {o : HO} (ok : StOk K ι H S) (hD : ι.hid D) (ho : ∀ ys, o ≠ .tup ys) : StOk K ι (upd H D o) S :=
  ok.conv rfl (hid_map hD) (fun a h => upd_ne fun e => (ok.hid D hD).1 (e ▸ h)) fun a h => by
    obtain ⟨n, o', e, q⟩ := ok.hid a h
    refine ⟨n, ?_⟩
    by_cases z : a = D
    · subst z; exact ⟨o, upd_same, ho⟩
    · exact ⟨o', by rw [upd_ne z]; exact e, q⟩
theorem Post.rehid {K : PySem.W.Frag} {ι : Adr} {H : Hp} {α : Type} {G : α → Store → Adr → Hp → Prop} {r : Res α} {D : Addr} {o old : HO} (h : Post K er0 ι H G r) (hD : ι.hid D) (he : H D = some old) (hno : some D ∉ ι.at_) (ho : ∀ ys, old ≠ .tup ys)
    (inv : ∀ a S' ι' Hx o', ι'.hid D → G a S' ι' Hx → G a S' ι' (upd Hx D o')) : Post K er0 ι (upd H D o) G r := by
  have dm : ∀ a, H a = none → upd H D o a = none := fun a e => by
    rw [upd_ne (ne_of_none' e he)]; exact e
  have st : ∀ {ι' H''}, Step ι (upd H D o) ι' H'' → Step ι H ι' (upd H'' D old) := fun {ι' H''} s =>
    { len := s.len, old := s.old,
      new := fun n a h e => by
        have z := s.new n a h e
        by_cases q : a = D
        · subst q; rw [upd_same] at z; cases z
        · rw [upd_ne q] at z; exact z
      keep := fun a o1 h n => by
        by_cases q : a = D
        · subst q; rw [upd_same, ← he, h]
        · rw [upd_ne q]
          exact s.keep a o1 (by rw [upd_ne q]; exact h) n
      hd := fun a h => (s.hd a h).imp id fun z => by
        by_cases q : a = D
        · subst q; rw [upd_same] at z; cases z
        · rw [upd_ne q] at z; exact z
      hm := s.hm
      dom := fun a e => by
        by_cases q : a = D
        · subst q; rw [upd_same] at e; cases e
        · rw [upd_ne q] at e
          have z := s.dom a e
          rw [upd_ne q] at z; exact z }
  cases r with
  | stuck => exact h
  | exc c S' =>
    intro ι' H'' s k
    exact (h ι' (upd H'' D old) (st s) (k.rehid (s.hm D hD) ho) : False).elim
  | ok a S' =>
    intro ι' H'' s k
    have g := h ι' _ (st s) (k.rehid (s.hm D hD) ho)
    have hx : H'' D = some o := s.keep D o upd_same hno
    have g := inv a S' ι' _ o (s.hm D hD) g
    rw [upd_upd, upd_id hx] at g
    exact g
where
  ne_of_none' {H : Hp} {a D : Addr} {old : HO} (e : H a = none) (he : H D = some old) : a ≠ D := fun q => by rw [q, he] at e; cases e

/-! ### [e for t in it if c] -/
section
variable {X : Cx} {er : ER} {C : CallT} {elt tg iter : Expr} {ifs : List Expr} {scope : Scope} {own : List (Str × Nat)} {t : Tg} {it : Ir} {c e : Ex} {pos : Pos}
theorem wipe_none : ∀ (ws : List Nat) (i : Nat) (τ : L2.St), L2.wipe (τ.set i none) ws = (L2.wipe τ ws).set i none
  | [], _, _ => rfl
  | w :: ws, i, τ => by
    unfold L2.wipe
    rw [wipe_none ws]
    by_cases q : w = i
    · subst q; rfl
    · rw [List.set_comm _ _ q]
theorem wipe_twice (σ : L2.St) : ∀ vs : List Nat, L2.wipe (L2.wipe σ vs) vs = L2.wipe σ vs
  | [] => rfl
  | v :: vs => by
    show (L2.wipe ((L2.wipe σ vs).set v none) vs).set v none = (L2.wipe σ vs).set v none
    rw [wipe_none, wipe_twice σ vs, List.set_set]
theorem wipe_idem (σ : L2.St) (vs : List Nat) (σ' : L2.St) (h : L2.wipe σ' vs = L2.wipe (L2.wipe σ vs) vs) : L2.wipe σ' vs = L2.wipe σ vs := by
  rw [h, wipe_twice]
theorem comp_rd {K : PySem.W.Frag} {E : Env} {S : Store} {ι : Adr} {H : Hp} {σ : L2.St} {Q : VK} (hE : EnvOk K ι H E σ) (hS : StOk K ι H S)
    (h : Post K er ι H (fun o S' ι' H' => ∀ u, OutOk K H ι' H' S' o u → Q u H') (ev C (.comp (own.map (·.2)) t it c e) E S)) :
    tLc (tI K er (evI C it)) (tG K t) (tB K er0 (evT C c)) (tE K er0 (ev C e)) (own.map (·.2)) σ H Q := by
  generalize hown : own.map (·.2) = ow at h ⊢
  unfold ev at h
  refine ⟨E, S, ι, hE, hS, h.bind.imp fun items S1 ι1 H1 st ok1 q J src D hD => ?_⟩
  obtain ⟨hw, q⟩ := Post.ite q
  have q0 := noExc_post q
  clear q h
  have sD : Same H1 (upd H1 D (.lst [])) := same_upd hD
  have okD : StOk K (ι1.hide D) (upd H1 D (.lst [])) S1 := ok1.hide hD (fun _ => nofun)
  have nD : ¬ ι1.av D := fresh_off ok1 hD
  -- where one stands between the turns
  let Fin : List PyData → Store → Adr → Hp → Prop := fun ys _ ι'' Hx => ∀ acc, RDs K ι'' Hx ys acc → Q (.ref D) (upd Hx D (.lst acc))
  have finInv : ∀ (a : List PyData) (S' : Store) (ι' : Adr) (Hx : Hp) (o' : HO), ι'.hid D → Fin a S' ι' Hx → Fin a S' ι' (upd Hx D o') := fun a S' ι' Hx o' hd g acc r => by
    rw [upd_upd]
    refine g acc (r.map fun b o hb n => ?_)
    have : b ≠ D := fun e => n (.inr (by rw [e]; exact hd))
    rw [upd_ne this] at hb
    exact ⟨hb, n⟩
  have start : Post K er0 (ι1.hide D) (upd H1 D (.lst [])) Fin (comprL (fun x => bindT t x (wipeE E ow)) (fun E => evT C c E) (fun E => datum (ev C e E)) items [] S1) := by
    have back : ∀ {ι'' H''}, Step (ι1.hide D) (upd H1 D (.lst [])) ι'' H'' → Step ι1 H1 ι'' H'' := fun s =>
      ({ len := Nat.le_refl _, old := fun _ _ _ h => h, new := fun n a h e => absurd (List.getElem?_eq_some_iff.mp e).1 (Nat.not_lt.mpr h), keep := fun a o h _ => sD a o h,
         hd := fun a h => h.elim .inl fun z => .inr (by rw [z]; exact hD), hm := fun a h => .inl h, dom := fun a h => sD.free h } : Step ι1 H1 (ι1.hide D) (upd H1 D (.lst []))).trans s
    cases qr : comprL (fun x => bindT t x (wipeE E ow)) (fun E => evT C c E) (fun E => datum (ev C e E)) items [] S1 with
    | stuck => rw [qr] at q0; exact q0
    | exc cc S' => rw [qr] at q0; exact fun ι'' H'' s k => q0 ι'' H'' (back s) (k.conv rfl (fun a o h n => ⟨h, n⟩) (fun _ _ => rfl) fun a h => k.hid a h)
    | ok ys S'' =>
      rw [qr] at q0
      intro ι'' H'' s k acc ra
      have s1 := back s
      have hdD : ι''.hid D := s.hm D (.inr rfl)
      have nhD : some D ∉ ι''.at_ := (k.hid D hdD).1
      let ι2 : Adr := ⟨ι''.at_, ι1.hid⟩
      have sub : ∀ a, (ι2.hide D).av a → ι''.av a := fun a z => z.elim .inl fun z => .inr (z.elim (fun z => s.hm a (.inl z)) fun z => by rw [z]; exact hdD)
      have f : ∀ a o, H'' a = some o → ¬ ι''.av a → upd H'' D (.lst acc) a = some o ∧ ¬ (ι2.hide D).av a := fun a o h n =>
        ⟨by rw [upd_ne (fun e : a = D => n (.inr (by rw [e]; exact hdD)))]; exact h, fun z => n (sub a z)⟩
      have ok2 : StOk K (ι2.hide D) (upd H'' D (.lst acc)) S'' := k.conv rfl f (fun a h => upd_ne fun e => nhD (by rw [← e]; exact h)) fun a h => by
        rcases h with h | h
        · obtain ⟨n, o, e, z⟩ := k.hid a (s.hm a (.inl h))
          refine ⟨n, o, ?_, z⟩
          rw [upd_ne fun e => nD (.inr (by rw [← e]; exact h))]; exact e
        · subst h
          exact ⟨nhD, _, upd_same, fun _ => nofun⟩
      have ok3 : StOk K ι2 (upd H'' D (.lst acc)) S'' := ok2.conv rfl (fun a o h n => ⟨h, fun z => n (z.imp id .inl)⟩) (fun _ _ => rfl) fun a h => ok2.hid a (.inl h)
      have nD2 : ¬ ι2.av D := fun z => z.elim nhD fun z => nD (.inr z)
      have st2 : Step ι1 H1 ι2 (upd H'' D (.lst acc)) :=
        { len := s1.len, old := s1.old, new := s1.new
          keep := fun a o h n => by
            rw [upd_ne (ne_of_none h hD)]
            exact s1.keep a o h n
          hd := fun a h => .inl h
          hm := fun a h => h
          dom := fun a e => by
            by_cases z : a = D
            · rw [z]; exact hD
            · rw [upd_ne z] at e; exact s1.dom a e }
      have g := q0 ι2 _ st2 ok3
      have g := Post.pure g ok3
      refine g (.ref D) ⟨D, rfl, st.dom D hD, nD2, StOk.unhide ok2 ⟨acc, upd_same, ra.map f⟩ fun z => nD (.inr z)⟩
  clear q0
  let W : Nat → Nat → Hp → Prop := fun i m Hc => m = items.length - i ∧ i ≤ items.length ∧ ∃ S' ι' ds acc, Step ι1 H1 ι' Hc ∧ StOk K ι' Hc S' ∧ ι'.hid D ∧ Hc D = some (.lst acc) ∧ RDs K ι' Hc ds acc ∧
    Post K er0 ι' Hc Fin (comprL (fun x => bindT t x (wipeE E ow)) (fun E => evT C c E) (fun E => datum (ev C e E)) (items.drop i) ds S')
  have st0 : Step ι1 H1 (ι1.hide D) (upd H1 D (.lst [])) :=
    { len := Nat.le_refl _, old := fun _ _ _ h => h, new := fun n a h e => absurd (List.getElem?_eq_some_iff.mp e).1 (Nat.not_lt.mpr h), keep := fun a o h _ => sD a o h,
      hd := fun a h => h.elim .inl fun z => .inr (by rw [z]; exact hD), hm := fun a h => .inl h, dom := fun a h => sD.free h }
  refine ⟨W, ⟨items.length, by omega, Nat.zero_le _, S1, ι1.hide D, [], [], st0, okD, .inr rfl, upd_same, .nil, start⟩, ?_⟩
  rintro i m Hc ⟨rfl, hi, S', ι', ds, acc, s', ok', hd', hDc, ra, pp⟩
  have src' := src ι' Hc S' s' ok' i
  by_cases hlt : i < items.length
  · have hit : items[i]? = some items[i] := List.getElem?_eq_getElem hlt
    obtain ⟨go, yl⟩ := src'.1 _ hit
    refine .inr ⟨go, W (i + 1) (items.length - (i + 1)), fun H' w => ⟨_, by omega, w⟩, fun x H'' y => ?_⟩
    obtain ⟨sm, rx⟩ := yl x H'' y
    rw [List.drop_eq_getElem_cons hlt] at pp
    unfold comprL at pp
    have pp := pp.same sm
    have ok2 := ok'.same sm
    have s2 : Step ι1 H1 ι' H'' := s'.trans (Step.same sm)
    obtain ⟨E1, e1, pp⟩ := (Post.bind pp).lift ok2
    refine ⟨wipeE E ow, _, S', ι', E1, (hE.mono (st.trans s2)).wipe ow, rx, ok2, e1, fun σ2 hE1 hwp => ⟨wipe_idem σ ow σ2 (hwp ow hw), ?_⟩⟩
    refine useB hE1 ok2 pp fun b S3 ι3 H3 st3 ok3 he3 pp => ?_
    have hD3 : H3 D = some (.lst acc) := st3.keep D _ (sm _ _ hDc) (ok2.hid D hd').1
    have hd3 : ι3.hid D := st3.hm D hd'
    cases b with
    | false =>
      refine iteF ⟨rfl, hlt, S3, ι3, ds, acc, s2.trans st3, ok3, hd3, hD3, (ra.mono (Step.same sm)).mono st3, pp⟩
    | true =>
      refine iteT (useD he3 ok3 pp fun y S4 ι4 H4 u st4 ok4 he4 hu4 pp => ?_)
      obtain ⟨hl, pp⟩ := Post.ite pp
      have hD4 : H4 D = some (.lst acc) := st4.keep D _ hD3 (ok3.hid D hd3).1
      have hd4 : ι4.hid D := st4.hm D hd3
      have ra4 : RDs K ι4 H4 ds acc := ((ra.mono (Step.same sm)).mono st3).mono st4
      have s4 : Step ι1 H1 ι4 H4 := (s2.trans st3).trans st4
      refine ⟨acc, hD4, by rw [← ra4.len]; exact Nat.lt_of_lt_of_le hl lim_line, rfl, hlt, S4, ι4, ds ++ [y], acc ++ [u], ?_, ok4.rehid hd4 (fun _ => nofun), hd4, upd_same, ?_, ?_⟩
      · exact { len := s4.len, old := s4.old, new := s4.new, hd := s4.hd, hm := s4.hm
                keep := fun a o h n => by rw [upd_ne (ne_of_none h hD)]; exact s4.keep a o h n
                dom := fun a e => by
                  by_cases z : a = D
                  · rw [z]; exact hD
                  · rw [upd_ne z] at e; exact s4.dom a e }
      · exact (ra4.append (.cons hu4 .nil)).map (hid_map hd4)
      · exact pp.rehid hd4 hD4 (ok4.hid D hd4).1 (fun _ => nofun) finInv
  · have e : i = items.length := by omega
    subst e
    refine .inl ⟨src'.2 (Nat.le_refl _), ?_⟩
    rw [List.drop_length] at pp
    have g := Post.pure pp ok' acc ra
    rw [upd_id hDc] at g
    exact g
theorem snd_comp (hu : Sur X) (hi : sndI X er C tg iter it) (ok : BlkOk X.N X.env.scope scope own)
    (hg : ∀ (s : Shared) (H : Hp) (A : Addr) (cl : List (Str × Addr)) (fp : List Addr), sndG (X.blk s H scope (compEnvC scope cl A X.env) fp) tg t)
    (ht : ∀ (s : Shared) (H : Hp) (A : Addr) (cl : List (Str × Addr)) (fp : List Addr), PTs (X.blk s H scope (compEnvC scope cl A X.env) fp) ifs (tB X.K er0 (evT C c)))
    (he : ∀ (s : Shared) (H : Hp) (A : Addr) (cl : List (Str × Addr)) (fp : List Addr), snd (X.blk s H scope (compEnvC scope cl A X.env) fp) er0 C elt e) (hs : ∀ x, foldedSetIterable iter X.env x = pure x) :
    snd X er C (.ListComp elt [⟨tg, iter, ifs, 0⟩] scope pos) (.comp (own.map (·.2)) t it c e) :=
  PE.weak (pe_lc hu.calm hu.nd hi ok hg ht he hs) fun σ H Q ⟨E, S, ι, hE, hS, h⟩ => comp_rd hE hS h
theorem set_comp {i : Nat} {n : Str} {py spos : Pos} {D : Ends} {σ : L2.St} {H : Hp} (hu : Sur X) (hy : X.N[i]? = some n) (hyl : X.env.scope.names.lookup n = some .local)
    (hsw : swapsWith (.ListComp elt [⟨tg, iter, ifs, 0⟩] scope pos) (some (.Name n py)) spos.line X.env = pure true) (hi : sndI X er C tg iter it) (ok : BlkOk X.N X.env.scope scope own)
    (hg : ∀ (s : Shared) (H : Hp) (A : Addr) (cl : List (Str × Addr)) (fp : List Addr), sndG (X.blk s H scope (compEnvC scope cl A X.env) fp) tg t)
    (ht : ∀ (s : Shared) (H : Hp) (A : Addr) (cl : List (Str × Addr)) (fp : List Addr), PTs (X.blk s H scope (compEnvC scope cl A X.env) fp) ifs (tB X.K er0 (evT C c)))
    (he : ∀ (s : Shared) (H : Hp) (A : Addr) (cl : List (Str × Addr)) (fp : List Addr), snd (X.blk s H scope (compEnvC scope cl A X.env) fp) er0 C elt e) (hs : ∀ x, foldedSetIterable iter X.env x = pure x) :
    PS X (.Assign [.Name n py] (.ListComp elt [⟨tg, iter, ifs, 0⟩] scope pos) spos) (tAsg (tE X.K er (ev C (.comp (own.map (·.2)) t it c e))) (gName i)) :=
  PS.weak (ps_setLc hu.calm hu.nd hy hyl hsw hi ok hg ht he hs) fun D σ H ⟨E, S, ι, hE, hS, h⟩ => comp_rd hE hS h
end
end Lf

set_option Elab.async false
set_option linter.all false
set_option maxRecDepth 100000
set_option maxHeartbeats 4000000
/-! What is frozen for a while; methods of lists. -/
namespace Lf
open PySem PySem.Spec PyProof.Rows L2

mutual
theorem flat_rd {K : PySem.W.Frag} {ι ι' : Adr} {H : Hp} (f : ∀ a ys, H a = some (.tup ys) → ¬ ι'.av a) : ∀ {x v}, flat x = true → RD K ι H x v → RD K ι' H x v
  | _, _, _, .non => .non
  | _, _, _, .bl b => .bl b
  | _, _, _, .int i => .int i
  | _, _, _, .str x => .str x
  | _, _, e, .lst h n r => by simp [flat] at e
  | _, _, e, .tup h n r => .tup h (f _ _ h) (flats_rd f (by simpa [flat] using e) r)
  | _, _, e, .dicK h n q r => by simp [flat] at e
  | _, _, e, .dicT h n q r => by simp [flat] at e
theorem flats_rd {K : PySem.W.Frag} {ι ι' : Adr} {H : Hp} (f : ∀ a ys, H a = some (.tup ys) → ¬ ι'.av a) : ∀ {x v}, flats x = true → RDs K ι H x v → RDs K ι' H x v
  | _, _, _, .nil => .nil
  | _, _, e, .cons a b => by
    simp only [flats, Bool.and_eq_true] at e
    exact .cons (flat_rd f e.1 a) (flats_rd f e.2 b)
end
theorem StOk.notup {K : PySem.W.Frag} {ι : Adr} {H : Hp} {S : Store} (ok : StOk K ι H S) : ∀ a ys, H a = some (.tup ys) → ¬ ι.av a := fun a ys h z => by
  rcases z with z | z
  · obtain ⟨n, hn⟩ := mem_at.mp z
    cases q : S[n]? with
    | none =>
      have h1 : n < ι.at_.length := (List.getElem?_eq_some_iff.mp hn).1
      rw [← ok.len] at h1
      have := List.getElem?_eq_none_iff.mp q
      omega
    | some o =>
      cases o with
      | none => have := ok.dead n q; rw [hn] at this; cases this
      | some c =>
        obtain ⟨b, h1, h2⟩ := ok.cell n c q
        rw [hn] at h1
        cases h1
        obtain ⟨o, e, no⟩ := h2.isSome
        rw [h] at e
        cases e
        exact no ys rfl
  · obtain ⟨_, o, e, no⟩ := ok.hid a z
    rw [h] at e
    cases e
    exact no ys rfl
theorem StOk.nil (K : PySem.W.Frag) (H : Hp) : StOk K .nil H [] :=
  ⟨rfl, fun n c e => by simp at e, fun n e => by simp at e, fun n m a e => by simp [Adr.nil] at e, fun a h => h.elim⟩
theorem freeze_env {K : PySem.W.Frag} {ι : Adr} {H : Hp} {S : Store} {E : Env} {σ : L2.St} (hE : EnvOk K ι H E σ) (ok : StOk K ι H S) : EnvOk K .nil H (freezeE S E) σ := by
  refine ⟨by simp [freezeE, hE.1], fun i v e => ?_⟩
  unfold freezeE at e
  rw [List.getElem?_map] at e
  cases q : E[i]? with
  | none => rw [q] at e; cases e
  | some o =>
    rw [q] at e
    cases o with
    | none => cases e
    | some w =>
      obtain ⟨u, h1, h2⟩ := hE.2 i w q
      refine ⟨u, h1, ?_⟩
      have e : freezeV S w = some v := Option.some.inj e
      cases w with
      | scr ns =>
        cases Option.some.inj e
        obtain ⟨a, ea, hf⟩ := h2
        exact ⟨a, ea, hf.anti fun b z => absurd z (Adr.nil_av b)⟩
      | d x =>
        cases Option.some.inj e
        exact RD.free h2
      | ref n =>
        unfold freezeV at e
        cases qd : toD S (.ref n) with
        | none => simp only [qd] at e; cases e
        | some x =>
          simp only [qd] at e
          cases Option.some.inj e
          exact (h2.toD ok qd).free
section
variable {X : Cx} {er : ER} {C : CallT} {a o i e : Expr} {es : List Expr} {x y z : Ex} {xs : Exs} {pos apos : Pos}
theorem fz_rd {K : PySem.W.Frag} {σ : L2.St} {H : Hp} {Q : VK} : tE K er (ev C (.fz x)) σ H Q → tE K er (ev C x) σ H Q := fun ⟨E, S, ι, hE, hS, h⟩ => by
  unfold ev at h
  refine ⟨freezeE S E, [], .nil, freeze_env hE hS, StOk.nil _ _, ?_⟩
  have same : ∀ {ι'' H''}, Step .nil H ι'' H'' → Same H H'' := fun s a o h => s.keep a o h (by simp [Adr.nil])
  cases q : ev C x (freezeE S E) [] with
  | stuck => simp only [q] at h; exact h
  | exc c S' =>
    simp only [q] at h
    exact fun ι'' H'' s k => h ι H'' (Step.same (same s)) (hS.same (same s))
  | ok o S' =>
    simp only [q] at h
    cases qf : flatO S' o with
    | none => simp only [qf] at h; exact h.elim
    | some o' =>
      simp only [qf] at h
      intro ι'' H'' s k u hu
      have sm := same s
      have ok2 := hS.same sm
      refine h ι H'' (Step.same sm) ok2 u ?_
      -- a list or dict that was just made there
      have mk : ∀ (p : Addr) (c : Cell), H p = none → CellOk K (ι.push p) H'' p c → ¬ ι.av p ∧ StOk K (ι.push p) H'' (S ++ [some c]) := fun p c hp hc =>
        ⟨fresh_off hS hp, hS.pushed sm hp hc⟩
      have nt : ∀ p, (∃ o, H'' p = some o ∧ ∀ ys, o ≠ .tup ys) → ∀ a ys, H'' a = some (.tup ys) → ¬ (ι.push p).av a := fun p hp a ys ha z => by
        have z : some a ∈ ι.at_ ++ [some p] ∨ ι.hid a := z
        rcases z with z | z
        · rcases List.mem_append.mp z with z | z
          · exact ok2.notup a ys ha (.inl z)
          · simp at z
            subst z
            obtain ⟨o, e, no⟩ := hp
            rw [ha] at e; cases e
            exact no ys rfl
        · exact ok2.notup a ys ha (.inr z)
      have cellF : ∀ (p : Addr) (ιx : Adr) (c : Cell), CellOk K ιx H'' p c → (match c with
          | .lst xs => flats xs = true
          | .dct kvs => flats (kvs.map (·.2)) = true) → CellOk K (ι.push p) H'' p c := fun p ιx c hc hf => by
        cases c with
        | lst xs =>
          obtain ⟨ys, e, r⟩ := hc
          exact ⟨ys, e, flats_rd (nt p ⟨_, e, fun _ => nofun⟩) hf r⟩
        | dct kvs =>
          rcases hc with ⟨ks, e, e2, r⟩ | ⟨ks, e, e2, r⟩
          · exact .inl ⟨ks, e, e2, flats_rd (nt p ⟨_, e, fun _ => nofun⟩) hf r⟩
          · exact .inr ⟨ks, e, e2, flats_rd (nt p ⟨_, e, fun _ => nofun⟩) hf r⟩
      cases o with
      | val v =>
        cases v with
        | d d =>
          simp only [flatO] at qf
          split at qf <;> cases qf
          exact flat_rd ok2.notup (by assumption) hu
        | scr ns => cases qf
        | ref n =>
          simp only [flatO] at qf
          cases qc : cellAt S' n with
          | none => rw [qc] at qf; cases qf
          | some c =>
            rw [qc] at qf
            have hn : S'[n]? = some (some c) := by
              unfold cellAt at qc
              cases z : S'[n]? with
              | none => rw [z] at qc; cases qc
              | some oo => rw [z] at qc; simp at qc; rw [qc]
            obtain ⟨p, hp, hc⟩ := k.cell n c hn
            have hu : n < ι''.at_.length ∧ ∀ a, ι''.at_[n]? = some (some a) → u = .ref a := hu
            have eu := hu.2 p hp
            have hpn : H p = none := s.new n p (Nat.zero_le _) hp
            cases c with
            | lst xs =>
              simp only at qf
              split at qf <;> cases qf
              obtain ⟨h1, h2⟩ := mk p _ hpn (cellF p _ _ hc (by assumption))
              exact ⟨p, eu, hpn, h1, h2⟩
            | dct kvs =>
              simp only at qf
              split at qf <;> cases qf
              rename_i hf
              rw [Bool.and_eq_true] at hf
              obtain ⟨h1, h2⟩ := mk p _ hpn (cellF p _ _ hc hf.2)
              exact ⟨p, eu, hpn, h1, h2⟩
      | lst xs =>
        simp only [flatO] at qf
        split at qf <;> cases qf
        obtain ⟨p, eu, hpn, _, hs⟩ := hu
        obtain ⟨h1, h2⟩ := mk p _ hpn (cellF p _ _ hs.last.2 (by assumption))
        exact ⟨p, eu, hpn, h1, h2⟩
      | dct kvs =>
        simp only [flatO] at qf
        split at qf <;> cases qf
        rename_i hf
        rw [Bool.and_eq_true] at hf
        obtain ⟨p, eu, hpn, _, hs⟩ := hu
        obtain ⟨h1, h2⟩ := mk p _ hpn (cellF p _ _ hs.last.2 hf.2)
        exact ⟨p, eu, hpn, h1, h2⟩
theorem snd_fz (ha : snd X er C a x) : snd X er C a (.fz x) := PE.weak ha fun σ H Q h => fz_rd h

/-! ### a cell is stored into -/
theorem put_map {ι : Adr} {H : Hp} {a : Addr} {o' : HO} (ha : some a ∈ ι.at_) : ∀ b o, H b = some o → ¬ ι.av b → upd H a o' b = some o ∧ ¬ ι.av b := fun b o h n =>
  ⟨by rw [upd_ne (fun e : b = a => n (.inl (by rw [e]; exact ha)))]; exact h, n⟩
theorem Step.put {ι : Adr} {H : Hp} {a : Addr} {o' : HO} (ha : some a ∈ ι.at_) {o : HO} (h : H a = some o) : Step ι H ι (upd H a o') where
  len := Nat.le_refl _
  old := fun _ _ _ h => h
  new := fun n a h e => absurd (List.getElem?_eq_some_iff.mp e).1 (Nat.not_lt.mpr h)
  keep := fun b o hb n => by rw [upd_ne (fun e : b = a => n (by rw [e]; exact ha))]; exact hb
  hd := fun _ h => .inl h
  hm := fun _ h => h
  dom := fun b e => by
    by_cases q : b = a
    · subst q; rw [upd_same] at e; cases e
    · rw [upd_ne q] at e; exact e
theorem StOk.put {K : PySem.W.Frag} {ι : Adr} {H : Hp} {S : Store} {n : Nat} {a : Addr} {c c' : Cell} {o' : HO} (ok : StOk K ι H S) (hn : S[n]? = some (some c)) (ha : ι.at_[n]? = some (some a)) (hc : CellOk K ι (upd H a o') a c') :
    StOk K ι (upd H a o') (S.set n (some c')) where
  len := by simp [ok.len]
  cell := fun m d e => by
    by_cases q : n = m
    · subst q
      rw [List.getElem?_set_self (List.getElem?_eq_some_iff.mp hn).1] at e
      cases e
      exact ⟨a, ha, hc⟩
    · rw [List.getElem?_set_ne q] at e
      obtain ⟨b, h1, h2⟩ := ok.cell m d e
      refine ⟨b, h1, h2.map (put_map (mem_at.mpr ⟨n, ha⟩)) (upd_ne fun z => ?_)⟩
      subst z
      exact q (ok.inj n m b ha h1)
  dead := fun m e => by
    by_cases q : n = m
    · subst q
      rw [List.getElem?_set_self (List.getElem?_eq_some_iff.mp hn).1] at e
      cases e
    · rw [List.getElem?_set_ne q] at e
      exact ok.dead m e
  inj := ok.inj
  hid := fun b h => by
    obtain ⟨h1, o, e, no⟩ := ok.hid b h
    exact ⟨h1, o, by rw [upd_ne (fun z : b = a => h1 (by rw [z]; exact mem_at.mpr ⟨n, ha⟩))]; exact e, no⟩
theorem ref_at {K : PySem.W.Frag} {ι : Adr} {H : Hp} {S : Store} {n : Nat} {c : Cell} {u : V} (ok : StOk K ι H S) (hc : cellAt S n = some c) (r : Rep K ι H (.ref n) u) :
    ∃ a, u = .ref a ∧ S[n]? = some (some c) ∧ ι.at_[n]? = some (some a) ∧ CellOk K ι H a c := by
  have hn : S[n]? = some (some c) := by
    unfold cellAt at hc
    cases z : S[n]? with
    | none => rw [z] at hc; cases hc
    | some oo => rw [z] at hc; simp at hc; rw [hc]
  obtain ⟨a, h1, h2⟩ := ok.cell n c hn
  exact ⟨a, r.2 a h1, hn, h1, h2⟩
end
end Lf

set_option Elab.async false
set_option linter.all false
set_option maxRecDepth 100000
set_option maxHeartbeats 4000000
/-! Tests; methods of lists. -/
namespace Lf
open PySem PySem.Spec PyProof.Rows L2

section
variable {X : Cx} {er : ER} {C : CallT} {a b c o i e : Expr} {es rest : List Expr} {x y z : Ex} {xs : Exs} {pos apos : Pos}
abbrev sndW (X : Cx) (er : ER) (C : CallT) (e : Expr) (x : Ex) : Prop := PW X e (tB X.K er (evT C x))
theorem PW.weak {e : Expr} {t t' : TT} (h : PW X e t) (w : ∀ σ H Q, t' σ H Q → t σ H Q) : PW X e t' := ⟨fun wh pins s σ H Q I q => h.run wh pins s σ H Q I (w σ H Q q)⟩
theorem t_not (ha : sndT X er C a x) : sndT X er C (.UnaryOp .Not a pos) (.not x) :=
  PT.weak (pt_not ha) fun σ H Q ⟨E, S, ι, hE, hS, h⟩ => by
    unfold evT at h
    exact useB hE hS h fun b S1 ι1 H1 st ok he q => Post.pure q ok
theorem w_and1 (ha : sndT X er C a x) : sndW X er C (.BoolOp .And [a] pos) x := pw_and1 ha
theorem w_or1 (ha : sndT X er C a x) : sndW X er C (.BoolOp .Or [a] pos) x := pw_or1 ha
theorem w_and (ha : sndT X er C a x) (hb : sndW X er C (.BoolOp .And (b :: rest) pos) y) : sndW X er C (.BoolOp .And (a :: b :: rest) pos) (.and x y) :=
  PW.weak (pw_and ha hb) fun σ H Q ⟨E, S, ι, hE, hS, h⟩ => by
    unfold evT at h
    refine useB hE hS h fun k S1 ι1 H1 st ok he q => ?_
    cases k with
    | true => exact iteT ⟨E, S1, ι1, he, ok, q⟩
    | false => exact iteF (Post.pure q ok)
theorem w_or (ha : sndT X er C a x) (hb : sndW X er C (.BoolOp .Or (b :: rest) pos) y) : sndW X er C (.BoolOp .Or (a :: b :: rest) pos) (.or x y) :=
  PW.weak (pw_or ha hb) fun σ H Q ⟨E, S, ι, hE, hS, h⟩ => by
    unfold evT at h
    refine useB hE hS h fun k S1 ι1 H1 st ok he q => ?_
    cases k with
    | true => exact iteT (Post.pure q ok)
    | false => exact iteF ⟨E, S1, ι1, he, ok, q⟩
theorem post_bl {K : PySem.W.Frag} {ι : Adr} {H H0 : Hp} {S : Store} {m : M Bool} {Q : Bool → Hp → Prop} (h : Post K er ι H (fun b _ _ H' => Q b H') (m S)) :
    Post K er ι H (fun o S' ι' H' => ∀ u, OutOk K H0 ι' H' S' o u → ∃ k, u = .bl k ∧ Q k H') (M.bind m (fun k => M.pure (.val (.d (.bool k)))) S) := by
  unfold M.bind
  cases q : m S with
  | stuck => rw [q] at h; exact h
  | exc c S' => rw [q] at h; exact h
  | ok k S' =>
    rw [q] at h
    intro ι' H' st ok u hu
    have hu : RD K ι' H' (.bool k) u := hu
    cases hu
    exact ⟨k, rfl, h ι' H' st ok⟩
theorem t_cmp {o : CO} (hu : Sur X) (ha : snd X er C a x) (hb : snd X er C b y) (hm : behindInMarks (opC o) b = false) : sndT X er C (.Compare a [opC o] [b] pos) (.cmp o x y) :=
  PT.weak (pt_cmpR (op_cmpO o (by have := hu.un; omega)) ha hb hm) fun σ H Q ⟨E, S, ι, hE, hS, h⟩ => two_rd (f := bl1 (cmpO o)) rfl rfl hE hS (by
    have h := post_bl (H0 := H) h
    unfold evT at h
    simp only [M.assoc] at h
    have e := lift_bl (f := cmpO o)
    have e' : ∀ x y, (M.bind (M.lift (cmpO o x y)) fun k => M.pure (.val (.d (.bool k)))) = M.lift (bl1 (cmpO o) x y) := fun x y => congrFun (congrFun e x) y
    simp only [e'] at h
    exact h)
theorem ite_bind {α β : Type} (k : Bool) (m n : M α) (f : α → M β) : M.bind (if k then m else n) f = if k then M.bind m f else M.bind n f := by cases k <;> rfl
theorem t_chn {o o' : CO} (hu : Sur X) (ha : snd X er C a x) (hb : snd X er C b y) (hc : snd X er C c z) (hm : lastMarks [opC o, opC o'] [b, c] = false) :
    sndT X er C (.Compare a [opC o, opC o'] [b, c] pos) (.chn o o' x y z) :=
  PT.weak (pt_chain (op_cmpO o (by have := hu.un; omega)) (op_cmpO o' (by have := hu.un; omega)) ha hb hc hm) fun σ H Q ⟨E, S, ι, hE, hS, h⟩ => chn_rd hE hS (by
    have h := post_bl (H0 := H) h
    unfold evT at h
    simp only [M.assoc, ite_bind] at h
    unfold ev
    exact h)
/-- the test of a value -/
theorem t_val (hv : ∀ E, evT C x E = M.bind (ev C x E) fun o => M.bind (toDM (settle o)) fun d => M.lift (truthO d)) (ha : snd X er C a x)
    (he : ∀ whole, isTrue a X.env whole = (do let v ← whole; standAt a.pos; holding [v] (truthy v))) : sndT X er C a x :=
  PT.weak (pt_truth ha he) fun σ H Q ⟨E, S, ι, hE, hS, h⟩ => by
    rw [hv] at h
    refine useO hE hS h fun o S1 ι1 H1 u st ok he hu q => ?_
    obtain ⟨d, e1, q⟩ := (Post.bind q).toD ok
    obtain ⟨k, e2, q⟩ := Post.lift q ok
    exact ⟨k, tru_of (hu.settle.toD ok e1) e2, q⟩
theorem tv_var (i : Nat) (E : Env) : evT C (.var i) E = M.bind (ev C (.var i) E) fun o => M.bind (toDM (settle o)) fun d => M.lift (truthO d) := by
  unfold evT ev
  cases (E[i]?).bind id <;> rfl
theorem tv_cst (d : PyData) (E : Env) : evT C (.cst d) E = M.bind (ev C (.cst d) E) fun o => M.bind (toDM (settle o)) fun d => M.lift (truthO d) := by
  unfold evT ev
  rfl
theorem tv_call (f : Nat) (E : Env) : evT C (.call f xs) E = M.bind (ev C (.call f xs) E) fun o => M.bind (toDM (settle o)) fun d => M.lift (truthO d) := by
  unfold evT ev
  rw [M.assoc]
theorem tv_blt (f : BF) (E : Env) : evT C (.blt f xs) E = M.bind (ev C (.blt f xs) E) fun o => M.bind (toDM (settle o)) fun d => M.lift (truthO d) := by
  unfold evT ev
  simp only [M.assoc]
theorem tv_isa (ts : List TY) (E : Env) : evT C (.isa x ts) E = M.bind (ev C (.isa x ts) E) fun o => M.bind (toDM (settle o)) fun d => M.lift (truthO d) := by
  rw [evT, ev, M.assoc]
  rfl

/-! ### methods of lists -/
def rM (K : PySem.W.Frag) (er : ER) (f : MF) : V → List V → Hp → VK → Prop := fun u us H Q => ∃ (v : Vl) (vs : List Vl) (S : Store) (ι : Adr), StOk K ι H S ∧ Rep K ι H v u ∧ Paired (Rep K ι H) vs us ∧
  Post K er ι H (fun o S' ι' H' => ∀ u', OutOk K H ι' H' S' o u' → Q u' H') (mthM f v vs S)
/-- a list's cell behind a store -/
theorem put_fin {K : PySem.W.Frag} {ι : Adr} {H : Hp} {S : Store} {n : Nat} {a : Addr} {c : Cell} {ys : List V} {xs : List PyData} {Q : VK} {d : PyData} {v : V} (ok : StOk K ι H S) (hn : S[n]? = some (some c)) (ha : ι.at_[n]? = some (some a)) {o : HO} (he : H a = some o)
    (r : RDs K ι H xs ys) (rv : RD K ι H d v) (h : Post K er ι H (fun o S' ι' H' => ∀ u', OutOk K H ι' H' S' o u' → Q u' H') (.ok (.val (.d d)) (S.set n (some (.lst xs))))) : Q v (upd H a (.lst ys)) := by
  have hm : some a ∈ ι.at_ := mem_at.mpr ⟨n, ha⟩
  exact h ι _ (Step.put hm he) (ok.put hn ha ⟨ys, upd_same, r.map (put_map hm)⟩) v (rv.map (put_map hm))
theorem mth_ref {f : MF} {v : Vl} {vs : List Vl} {S : Store} {K : PySem.W.Frag} {ι : Adr} {H : Hp} {G : Out → Store → Adr → Hp → Prop} (h : Post K er ι H G (mthM f v vs S)) : ∃ n zs, v = .ref n ∧ cellAt S n = some (.lst zs) := by
  unfold mthM at h
  cases v with
  | d x => exact h.elim
  | scr ns => exact h.elim
  | ref n =>
    simp only at h
    cases q : cellAt S n with
    | none => rw [q] at h; exact h.elim
    | some c =>
      cases c with
      | lst zs => exact ⟨n, zs, rfl, q⟩
      | dct kvs =>
        rw [q] at h; exact h.elim
theorem m_append : MtR X "list.append" (rM X.K er .append) := by
  intro pins s σ H u us w ws Q I ru rs ⟨v, vs, S, ι, ok, hv, hvs, h⟩
  obtain ⟨n, zs, rfl, hc⟩ := mth_ref h
  obtain ⟨a, rfl, hn, ha, ys, he, r⟩ := ref_at ok hc hv
  unfold mthM at h
  simp only [hc] at h
  cases hvs with
  | nil => exact h.elim
  | cons r1 t =>
    rename_i v1 u1 _ _
    cases t with
    | cons _ _ => cases v1 <;> exact h.elim
    | nil =>
      cases v1 with
      | ref n => exact h.elim
      | scr ns => exact h.elim
      | d x =>
        simp only at h
        split at h
        · rename_i hl
          refine mt_append pins s σ H _ _ w ws Q I ru rs ⟨a, ys, u1, rfl, rfl, he, ?_, put_fin ok hn ha he (r.append (.cons r1 .nil)) .non h⟩
          rw [← r.len]; exact Nat.lt_of_lt_of_le hl lim_line
        · exact h.elim
theorem m_extend : MtR X "list.extend" (rM X.K er .extend) := by
  intro pins s σ H u us w ws Q I ru rs ⟨v, vs, S, ι, ok, hv, hvs, h⟩
  obtain ⟨n, zs, rfl, hc⟩ := mth_ref h
  obtain ⟨a, rfl, hn, ha, ys, he, r⟩ := ref_at ok hc hv
  unfold mthM at h
  simp only [hc] at h
  cases hvs with
  | nil => exact h.elim
  | cons r1 t =>
    rename_i v1 u1 _ _
    cases t with
    | cons _ _ => cases v1 <;> try exact h.elim
                  rename_i x; cases x <;> exact h.elim
    | nil =>
      cases v1 with
      | ref n => exact h.elim
      | scr ns => exact h.elim
      | d x =>
        cases x <;> try exact h.elim
        rename_i xs'
        simp only at h
        split at h
        · rename_i hl
          cases r1 with
          | lst hb hnb rb =>
            refine mt_extend pins s σ H _ _ w ws Q I ru rs ⟨a, _, ys, _, rfl, rfl, he, hb, ?_, put_fin ok hn ha he (r.append rb) .non h⟩
            rw [← r.len, ← rb.len]; exact Nat.le_trans hl lim_line
        · exact h.elim
theorem m_pop : MtR X "list.pop" (rM X.K er .pop) := by
  intro pins s σ H u us w ws Q I ru rs ⟨v, vs, S, ι, ok, hv, hvs, h⟩
  obtain ⟨n, zs, rfl, hc⟩ := mth_ref h
  obtain ⟨a, rfl, hn, ha, ys, he, r⟩ := ref_at ok hc hv
  unfold mthM at h
  simp only [hc] at h
  cases hvs with
  | cons r1 t => exact h.elim
  | nil =>
    simp only at h
    cases q : popAt zs (-1) with
    | none => rw [q] at h; exact h.elim
    | some p =>
      rw [q] at h
      unfold popAt ixN at q
      rw [if_neg (by decide)] at q
      split at q
      · rename_i hz
        simp only [Option.bind_some, Option.map_eq_some_iff] at q
        obtain ⟨x, hx, rfl⟩ := q
        have ek : ((-1 : Int) + (zs.length : Int)).toNat = zs.length - 1 := by omega
        rw [ek] at hx h
        obtain ⟨t, ht, rt⟩ := r.get hx
        refine mt_pop pins s σ H _ _ w ws Q I ru rs ⟨a, ys, t, rfl, rfl, he, by rw [← r.len]; exact ht, ?_⟩
        have r' := r.erase (zs.length - 1)
        have e2 : ys.eraseIdx (zs.length - 1) = ys.dropLast := by rw [r.len, List.eraseIdx_length_sub_one]
        rw [e2] at r'
        exact put_fin ok hn ha he r' rt h
      · cases q
theorem m_popat : MtR X "list.pop" (rM X.K er .popat) := by
  intro pins s σ H u us w ws Q I ru rs ⟨v, vs, S, ι, ok, hv, hvs, h⟩
  obtain ⟨n, zs, rfl, hc⟩ := mth_ref h
  obtain ⟨a, rfl, hn, ha, ys, he, r⟩ := ref_at ok hc hv
  unfold mthM at h
  simp only [hc] at h
  cases hvs with
  | nil => exact h.elim
  | cons r1 t =>
    rename_i v1 u1 _ _
    cases t with
    | cons _ _ => cases v1 <;> try exact h.elim
                  rename_i x; cases x <;> exact h.elim
    | nil =>
      cases v1 with
      | ref n => exact h.elim
      | scr ns => exact h.elim
      | d x =>
        cases x <;> try exact h.elim
        rename_i i
        simp only at h
        cases q : popAt zs i with
        | none => rw [q] at h; exact h.elim
        | some p =>
          rw [q] at h
          unfold popAt at q
          cases qi : ixN zs.length i with
          | none => rw [qi] at q; cases q
          | some k =>
            rw [qi] at q
            simp only [Option.bind_some, Option.map_eq_some_iff] at q
            obtain ⟨x, hx, rfl⟩ := q
            obtain ⟨t, ht, rt⟩ := r.get hx
            obtain ⟨s1, s2, s3, s4⟩ := ixN_seq qi
            have hz := (I.lstM he).1
            have hl := r.len
            have h63 := line63
            cases r1
            refine mt_popAt pins s σ H _ _ w ws Q I ru rs ⟨a, ys, i, k, t, rfl, rfl, he, by omega, by omega, by rw [← hl]; exact s1, ht, put_fin ok hn ha he (r.erase k) rt h⟩
theorem m_reverse : MtR X "list.reverse" (rM X.K er .reverse) := by
  intro pins s σ H u us w ws Q I ru rs ⟨v, vs, S, ι, ok, hv, hvs, h⟩
  obtain ⟨n, zs, rfl, hc⟩ := mth_ref h
  obtain ⟨a, rfl, hn, ha, ys, he, r⟩ := ref_at ok hc hv
  unfold mthM at h
  simp only [hc] at h
  cases hvs with
  | cons r1 t => exact h.elim
  | nil => exact mt_reverse pins s σ H _ _ w ws Q I ru rs ⟨a, ys, rfl, rfl, he, put_fin ok hn ha he r.reverse .non h⟩
theorem m_clear : MtR X "list.clear" (rM X.K er .clear) := by
  intro pins s σ H u us w ws Q I ru rs ⟨v, vs, S, ι, ok, hv, hvs, h⟩
  obtain ⟨n, zs, rfl, hc⟩ := mth_ref h
  obtain ⟨a, rfl, hn, ha, ys, he, r⟩ := ref_at ok hc hv
  unfold mthM at h
  simp only [hc] at h
  cases hvs with
  | cons r1 t => exact h.elim
  | nil => exact mt_clear pins s σ H _ _ w ws Q I ru rs ⟨a, ys, rfl, rfl, he, put_fin ok hn ha he .nil .non h⟩
theorem m_insert : MtR X "list.insert" (rM X.K er .insert) := by
  intro pins s σ H u us w ws Q I ru rs ⟨v, vs, S, ι, ok, hv, hvs, h⟩
  obtain ⟨n, zs, rfl, hc⟩ := mth_ref h
  obtain ⟨a, rfl, hn, ha, ys, he, r⟩ := ref_at ok hc hv
  unfold mthM at h
  simp only [hc] at h
  split at h <;> try exact h.elim
  all_goals try (rename_i heq; cases heq; done)
  rename_i i x _ _
  cases hvs with
  | cons r1 t =>
    cases t with
    | cons r2 t2 =>
      cases t2
      split at h
      · rename_i hb
        cases r1
        have hz := (I.lstM he).1
        have hl := r.len
        have h63 := line63
        have hll := lim_line
        refine mt_insert pins s σ H _ _ w ws Q I ru rs ⟨a, ys, _, _, rfl, rfl, he, by omega, hb.1, by omega, ?_⟩
        rw [List.append_assoc]
        exact put_fin ok hn ha he ((r.take _).append (.cons r2 (r.drop _))) .non h
      · exact h.elim
end
end Lf

set_option Elab.async false
set_option linter.all false
set_option maxRecDepth 100000
set_option maxHeartbeats 4000000
/-! Stores into dicts. -/
namespace Lf
open PySem PySem.Spec PyProof.Rows L2
section
variable {X : Cx} {pins : List (Addr × Obj)} {σ : L2.St} {H : Hp} {s : Shared} {a : Addr}
/-- an empty dict is of both kinds -/
theorem retagK (I : Inv X pins σ H s) (e : H a = some (.dT [])) : Inv X pins σ (upd H a (.dK [])) s := by
  obtain ⟨z, hd, xs, rel, o, es, ep, ho, hx, hdat, hes, _⟩ := I.hok a _ e
  cases rel
  have hes : es.toList = [] := by simpa using hes
  exact d_write (h' := s.heap) (t' := s.toks) I (by rw [e]; trivial) ⟨rfl, fun _ _ => rfl⟩ ⟨o, ho⟩ (dk_new (by simp) hd (vs := []) .nil ⟨o, es, ep, ho, hx, hdat, fun en he => absurd (Array.mem_toList_iff.mpr he) (by rw [hes]; simp), by rw [hes]; exact .nil, by simp⟩)
theorem retagT (I : Inv X pins σ H s) (e : H a = some (.dK [])) : Inv X pins σ (upd H a (.dT [])) s := by
  obtain ⟨z, hd, vs, rel, o, es, ep, ho, hx, hdat, _, hes, hn⟩ := I.hok a _ e
  cases rel
  have hes : es.toList = [] := by
    generalize es.toList = l at hes
    cases hes; rfl
  exact d_write (h' := s.heap) (t' := s.toks) I (by rw [e]; trivial) ⟨rfl, fun _ _ => rfl⟩ ⟨o, ho⟩ ⟨by simp, hd, [], .nil, o, es, ep, ho, hx, hdat, by rw [hes]; rfl, by simp⟩
def DPutA (H : Hp) (a : Addr) (y v : V) (H' : Hp) : Prop := DPut H a y v H' ∨ ∃ j, H a = some (.dT []) ∧ y = kV j ∧ H' = upd H a (.dK [(j, v)])
theorem setItemA {y v : V} {u r : Value} {H' : Hp} {A : Around} {E : Value → Shared → Prop} {Q : Unit → Shared → Prop} (hu : A.units + 1 < cLine) (I : Inv X pins σ H s) (g : DPutA H a y v H') (ry : RelV y u) (rv : RelV v r) (h : ∀ s', Inv X pins σ H' s' → Q () s') :
    wpAny (model X.prog X.w) A (setItem (.ref a) u r) Q E s := by
  rcases g with g | ⟨j, e, rfl, rfl⟩
  · exact d_setItem hu I g ry rv h
  · refine d_setItem hu (retagK I e) (DPut.k upd_same (by rw [sizeLine_eq]; simp)) ry rv fun s' I' => h s' ?_
    rw [upd_upd] at I'
    exact I'
def rSetA (K : PySem.W.Frag) : V → V → V → Hp → (Hp → Prop) → Prop := fun o i v H Q => rSetL o i v H Q ∨ ∃ a H', o = .ref a ∧ DPutA H a i v H' ∧ Q H'
theorem set_any (hu : X.A.units + 1 < cLine) : PSet X (rSetA X.K) := by
  intro pins s σ H o i v ov iv u Q I ro ri rv h
  rcases h with h | ⟨a, H', eo, g, q⟩
  · exact set_list pins s σ H o i v ov iv u Q I ro ri rv h
  · subst eo
    cases (show ov = Value.ref a from ro)
    exact setItemA hu I g ri rv fun s' I' => ⟨H', I', q⟩
end
/-- the cell behind a store -/
theorem put_cell {K : PySem.W.Frag} {ι : Adr} {H : Hp} {a : Addr} {ds ds' : List (PyData × PyData)} {key d : PyData} {y v : V} (hm : ι.av a) (hc : CellOk K ι H a (.dct ds)) (hk : RD K ι H key y) (hv : RD K ι H d v) (e : putO ds key d = some ds') :
    ∃ H' o', DPutA H a y v H' ∧ H' = upd H a o' ∧ CellOk K ι H' a (.dct ds') := by
  have fm : ∀ (o' : HO) (b : Addr) (o : HO), H b = some o → ¬ ι.av b → upd H a o' b = some o ∧ ¬ ι.av b := fun o' b o hb n => ⟨by rw [upd_ne (fun z : b = a => n (by rw [z]; exact hm))]; exact hb, n⟩
  unfold putO at e
  cases q : dkOf key with
  | none => rw [q] at e; cases e
  | some k =>
    rw [q] at e
    simp only at e
    split at e
    · rename_i c
      have e := Option.some.inj e
      subst e
      rw [Bool.and_eq_true, decide_eq_true_eq] at c
      obtain ⟨c1, c2⟩ := c
      have hz : ds.length < sizeLine := Nat.lt_of_lt_of_le c2 lim_line
      have ne : ∀ (k : DK) (key d : PyData), dctPut ds k key d ≠ [] := fun k key d z => by
        unfold dctPut at z
        split at z
        · rename_i h
          have : ds = [] := by simpa using z
          rw [this] at h; simp at h
        · simp at z
      rcases hc with ⟨kvs, h1, ⟨h0, h2⟩, h3⟩ | ⟨kvs, h1, h2, h3⟩
      · have dr : DR keyD K ι H ds kvs := .of h2 h3
        rcases (show RC K ι H key y from .inl hk).at_key q with ⟨j, rfl, rfl, rfl⟩ | ⟨j, b, rfl, rfl, rfl, hb⟩
        · have p := dr.put gK injK j hv
          exact ⟨_, .dK (putK kvs j v), .inl (DPut.k h1 (by rw [← dr.len]; exact hz)), rfl, .inl ⟨_, upd_same, ⟨ne _ _ _, p.keys⟩, p.vals.map (fm _)⟩⟩
        · exact absurd (kind_K dr c1) h0
      · have dr : DR fT K ι H ds kvs := .of h2 h3
        rcases (show RC K ι H key y from .inl hk).at_key q with ⟨j, rfl, rfl, rfl⟩ | ⟨j, b, rfl, rfl, rfl, hb⟩
        · have := kind_T dr c1
          subst this
          cases dr
          have p := (DR.nil (f := keyD) (K := K) (ι := ι) (H := H)).put gK injK j hv
          exact ⟨_, .dK [(j, v)], .inr ⟨j, h1, rfl, rfl⟩, rfl, .inl ⟨_, upd_same, ⟨ne _ _ _, p.keys⟩, p.vals.map (fm _)⟩⟩
        · have p := dr.put gT injT j hv
          exact ⟨_, .dT (putK kvs j v), .inl (DPut.t h1 hb (by rw [← dr.len]; exact hz)), rfl, .inr ⟨_, upd_same, p.keys, p.vals.map (fm _)⟩⟩
    · cases e
end Lf

set_option Elab.async false
set_option linter.all false
set_option maxRecDepth 100000
set_option maxHeartbeats 4000000
/-! dict(xs): xs a list of pairs. -/
namespace Lf
open PySem PySem.Spec PyProof.Rows L2
section
variable {K : PySem.W.Frag} {ι : Adr} {H : Hp}
theorem put_ne {ds : List (PyData × PyData)} {k : DK} {key d : PyData} : dctPut ds k key d ≠ [] := fun z => by
  unfold dctPut at z
  split at z
  · rename_i h
    have : ds = [] := by simpa using z
    rw [this] at h; simp at h
  · simp at z
/-- one pair of the list, as it lies -/
theorem pair_one {x : PyData} {xs : List PyData} {ys : List V} {ds acc : List (PyData × PyData)} (r : RDs K ι H (x :: xs) ys) (e : dictOfL (x :: xs) ds = some acc) :
    ∃ (p : Addr) (k d : PyData) (dk : DK) (a b : V) (ys' : List V), ys = .ref p :: ys' ∧ RDs K ι H xs ys' ∧ H p = some (.tup [a, b]) ∧ dkOf k = some dk ∧ RD K ι H k a ∧ RD K ι H d b ∧ kindB ds dk = true ∧ dictOfL xs (dctPut ds dk k d) = some acc := by
  cases r with
  | cons r t =>
    unfold dictOfL at e
    split at e
    · rename_i he; simp at he
    · rename_i k d rest he
      cases he
      obtain ⟨ds', e1, e2⟩ := Option.bind_eq_some_iff.mp e
      unfold putO at e1
      cases q : dkOf k with
      | none => rw [q] at e1; cases e1
      | some dk =>
        rw [q] at e1
        simp only at e1
        split at e1
        · rename_i c
          rw [Bool.and_eq_true] at c
          cases e1
          cases r with
          | tup h n rs =>
            cases rs with
            | cons r1 rs =>
              cases rs with
              | cons r2 rs =>
                cases rs
                exact ⟨_, k, d, dk, _, _, _, rfl, t, h, q, r1, r2, c.1, e2⟩
        · cases e1
    · cases e
theorem pairs_K : ∀ {xs : List PyData} {ys : List V} {ds acc : List (PyData × PyData)} {kvs : List (Key × V)}, RDs K ι H xs ys → dictOfL xs ds = some acc → ds ≠ [] → DR keyD K ι H ds kvs →
    ∃ (ps : List Addr) (more : List (Key × V)), ys = ps.map V.ref ∧ Paired (fun p (kv : Key × V) => SqT K H p [kV kv.1, kv.2]) ps more ∧ acc ≠ [] ∧ DR keyD K ι H acc (mergeK kvs more)
  | [], _, ds, acc, kvs, .nil, e, ne, h => by
    unfold dictOfL at e
    cases e
    exact ⟨[], [], rfl, .nil, ne, h⟩
  | x :: xs, ys, ds, acc, kvs, r, e, ne, h => by
    obtain ⟨p, k, d, dk, a, b, ys', rfl, t, hp, hk, ra, rb, kd, e2⟩ := pair_one r e
    rcases (show RC K ι H k a from .inl ra).at_key hk with ⟨j, rfl, rfl, rfl⟩ | ⟨j, c, rfl, rfl, rfl, hc⟩
    · obtain ⟨ps, more, e3, pr, na, h2⟩ := pairs_K t e2 put_ne (h.put gK injK j rb)
      exact ⟨p :: ps, (j, b) :: more, by rw [e3]; rfl, .cons (SqT.of hp) pr, na, h2⟩
    · exact absurd (kind_K h kd) ne
structure PT where
  p : Addr
  k : List Key
  b : Addr
  v : V
def PT.ok (H : Hp) (q : PT) : Prop := H q.p = some (.tup [.ref q.b, q.v]) ∧ H q.b = some (.tup (q.k.map kV))
def mergeT (kvs : List (List Key × V)) (more : List PT) : List (List Key × V) := more.foldl (fun acc q => putK acc q.k q.v) kvs
theorem pairs_T : ∀ {xs : List PyData} {ys : List V} {ds acc : List (PyData × PyData)} {kvs : List (List Key × V)}, RDs K ι H xs ys → dictOfL xs ds = some acc → ds ≠ [] → DR fT K ι H ds kvs →
    ∃ more : List PT, ys = more.map (fun q => V.ref q.p) ∧ (∀ q ∈ more, q.ok H) ∧ DR fT K ι H acc (mergeT kvs more)
  | [], _, ds, acc, kvs, .nil, e, ne, h => by
    unfold dictOfL at e
    cases e
    exact ⟨[], rfl, nofun, h⟩
  | x :: xs, ys, ds, acc, kvs, r, e, ne, h => by
    obtain ⟨p, k, d, dk, a, b, ys', rfl, t, hp, hk, ra, rb, kd, e2⟩ := pair_one r e
    rcases (show RC K ι H k a from .inl ra).at_key hk with ⟨j, rfl, rfl, rfl⟩ | ⟨j, c, rfl, rfl, rfl, hc⟩
    · exact absurd (kind_T h kd) ne
    · obtain ⟨more, e3, pr, h2⟩ := pairs_T t e2 put_ne (h.put gT injT j rb)
      refine ⟨⟨p, j, c, b⟩ :: more, by rw [e3]; rfl, fun q hq => ?_, h2⟩
      rcases List.mem_cons.mp hq with rfl | hq
      · exact ⟨hp, hc⟩
      · exact pr q hq
/-- of one kind from the first on -/
theorem pairs_any {xs : List PyData} {ys : List V} {acc : List (PyData × PyData)} (r : RDs K ι H xs ys) (e : dictOfL xs [] = some acc) :
    (∃ (ps : List Addr) (more : List (Key × V)), ys = ps.map V.ref ∧ Paired (fun p (kv : Key × V) => SqT K H p [kV kv.1, kv.2]) ps more ∧ acc ≠ [] ∧ DR keyD K ι H acc (mergeK [] more)) ∨
    ∃ more : List PT, ys = more.map (fun q => V.ref q.p) ∧ (∀ q ∈ more, q.ok H) ∧ DR fT K ι H acc (mergeT [] more) := by
  cases xs with
  | nil =>
    cases r
    unfold dictOfL at e
    cases e
    exact .inr ⟨[], rfl, nofun, .nil⟩
  | cons x xs =>
    obtain ⟨p, k, d, dk, a, b, ys', rfl, t, hp, hk, ra, rb, kd, e2⟩ := pair_one r e
    rcases (show RC K ι H k a from .inl ra).at_key hk with ⟨j, rfl, rfl, rfl⟩ | ⟨j, c, rfl, rfl, rfl, hc⟩
    · obtain ⟨ps, more, e3, pr, na, h2⟩ := pairs_K t e2 put_ne ((DR.nil (f := keyD)).put gK injK j rb)
      exact .inl ⟨p :: ps, (j, b) :: more, by rw [e3]; rfl, .cons (SqT.of hp) pr, na, h2⟩
    · obtain ⟨more, e3, pr, h2⟩ := pairs_T t e2 put_ne ((DR.nil (f := fT)).put gT injT j rb)
      refine .inr ⟨⟨p, j, c, b⟩ :: more, by rw [e3]; rfl, fun q hq => ?_, h2⟩
      rcases List.mem_cons.mp hq with rfl | hq
      · exact ⟨hp, hc⟩
      · exact pr q hq
end
section
variable {X : Cx} {pins : List (Addr × Obj)} {σ : L2.St} {H : Hp} {s : Shared} {ι : Adr}
theorem Wish.dctK {K : PySem.W.Frag} {S : Store} {ds : List (PyData × PyData)} {kvs : List (Key × V)} {Q : VK} {p : Addr} (h : Wish K ι H (.dct ds) Q) (ok : StOk K ι H S) (ne : ds ≠ []) (r : DR keyD K ι H ds kvs) (hp : H p = none) : Q (.ref p) (upd H p (.dK kvs)) :=
  h _ _ (same_upd hp) ⟨p, rfl, hp, fresh_off ok hp, .inl ⟨kvs, upd_same, ⟨ne, r.keys⟩, r.vals.mono (Step.pushed hp)⟩⟩
theorem Wish.dctT {K : PySem.W.Frag} {S : Store} {ds : List (PyData × PyData)} {kvs : List (List Key × V)} {Q : VK} {p : Addr} (h : Wish K ι H (.dct ds) Q) (ok : StOk K ι H S) (r : DR fT K ι H ds kvs) (hp : H p = none) : Q (.ref p) (upd H p (.dT kvs)) :=
  h _ _ (same_upd hp) ⟨p, rfl, hp, fresh_off ok hp, .inr ⟨kvs, upd_same, r.keys, r.vals.mono (Step.pushed hp)⟩⟩
abbrev Zs := List (List Key × Addr × Value)
theorem pairs_lie (I : Inv X pins σ H s) : ∀ (more : List PT), (∀ q ∈ more, q.ok H) → ∃ zs : Zs, Paired (fun (q : PT) (z : List Key × Addr × Value) => z.1 = q.k ∧ z.2.1 = q.b ∧ RelV q.v z.2.2 ∧ PairAt s.heap q.p (.ref z.2.1) z.2.2 ∧ (tupleKind (mixKind X.prog X.w)).is s.heap z.1 z.2.1 ∧ H q.b = some (.tup (q.k.map kV))) more zs
  | [], _ => ⟨[], .nil⟩
  | q :: more, h => by
    obtain ⟨zs, hz⟩ := pairs_lie I more fun q hq => h q (List.mem_cons_of_mem _ hq)
    obtain ⟨h1, h2⟩ := h q List.mem_cons_self
    obtain ⟨its, rw, pl, _⟩ := I.tuple (SqT.of h1)
    obtain ⟨u, v, rfl, r1, r2⟩ := vals2 rw
    cases r1
    exact ⟨(q.k, q.b, v) :: zs, .cons ⟨rfl, rfl, r2, .inl pl, key_of I.hok h2, h2⟩ hz⟩
theorem kt_merge {zs : Zs} {more : List PT} (h : Paired (fun (q : PT) (z : List Key × Addr × Value) => z.1 = q.k ∧ z.2.1 = q.b ∧ RelV q.v z.2.2 ∧ PairAt s.heap q.p (.ref z.2.1) z.2.2 ∧ (tupleKind (mixKind X.prog X.w)).is s.heap z.1 z.2.1 ∧ H q.b = some (.tup (q.k.map kV))) more zs) :
    ∀ {kvs : List (List Key × V)} {xs : Zs}, KT H kvs xs → KT H (mergeT kvs more) (storedAllH xs zs) := by
  induction h with
  | nil => exact fun k => k
  | cons h _ ih =>
    intro kvs xs k
    obtain ⟨h1, h2, h3, _, _, h6⟩ := h
    refine ih ?_
    show KT H _ (storedH _ _ _ _)
    rw [h1, h2]
    exact k.put _ h6 h3
theorem storedAllH_len : ∀ (zs xs : Zs), (storedAllH xs zs).length ≤ xs.length + zs.length
  | [], xs => Nat.le_refl _
  | z :: zs, xs => by
    show (storedAllH (storedH xs z.1 z.2.1 z.2.2) zs).length ≤ _
    have h1 := storedAllH_len zs (storedH xs z.1 z.2.1 z.2.2)
    have h2 := storedH_length xs z.1 z.2.1 z.2.2
    simp only [List.length_cons]
    omega
theorem Paired.getL {α β : Type} {R : α → β → Prop} : ∀ {as : List α} {bs : List β} {i : Nat} {b : β}, Paired R as bs → bs[i]? = some b → ∃ a, as[i]? = some a ∧ R a b
  | _, _, _, _, .nil, e => by simp at e
  | _, _, 0, _, .cons r _, e => by simp at e; subst e; exact ⟨_, rfl, r⟩
  | _, _, i + 1, _, .cons _ t, e => by
    rw [List.getElem?_cons_succ] at e ⊢
    exact Paired.getL t e
theorem refs_of : ∀ {more : List PT} {us : List Value}, Vals (more.map fun q => V.ref q.p) us → us = more.map fun q => Value.ref q.p
  | [], _, .nil => rfl
  | q :: more, _, .cons r t => by
    cases r
    rw [refs_of t]; rfl
theorem blt_dict (h : Sur X) : CallR X (.type "dict") (rBl X.K .dict) := by
  intro pins s σ H us vs Q I r ⟨ι, S, ds, out, ok, hd, e, hq⟩
  match ds, e with
  | [.list xs], e =>
    simp only [bltO] at e
    obtain ⟨acc, e1, rfl⟩ := Option.map_eq_some_iff.mp e
    obtain ⟨u, rfl, hu⟩ := pr1 hd
    obtain ⟨a, ys, rfl, ha, ra⟩ := hu.lst
    rcases pairs_any ra e1 with ⟨ps, more, rfl, pr, ne, dr⟩ | ⟨more, rfl, pr, dr⟩
    · exact call_dictP h.calm pins s σ H _ vs Q I r ⟨a, ps, more, rfl, SqL.of ha, pr, fun p hp => hq.dctK ok ne dr hp⟩
    · obtain ⟨v, rfl, rv⟩ := vals1 r
      cases rv
      obtain ⟨its, rw, pl, hz⟩ := I.list (SqL.of ha)
      obtain ⟨zs, hzs⟩ := pairs_lie I more pr
      have len : more.length = zs.length := hzs.length
      obtain rfl := refs_of rw
      have hun := h.un
      obtain ⟨o, n, ho, hc, hdd, hdat⟩ := pl
      have hsz : zs.length ≤ sizeLine := by rw [← len]; simpa using hz
      refine call_dict_pairsH (knd := tupleKind (mixKind X.prog X.w)) (ps := zs) (PairArg.list a (more.map fun q => Value.ref q.p).toArray (fun j => (more[j]?.map (·.p)).getD 0) (zs.map fun z => (Value.ref z.2.1, z.2.2))) (I.ok.hd h.calm)
        (by show X.A.units + 1 + 1 < cLine; omega) ⟨⟨o, n, ho, hc, hdd, hdat⟩, ?_, ?_⟩ ⟨by simp, ?_⟩ ?_ (by simpa using hsz) fun h' tk hd' k => ?_
      · simpa using len
      · intro j k v e
        rw [List.getElem?_map, Option.map_eq_some_iff] at e
        obtain ⟨z, e, ez⟩ := e
        obtain ⟨q, hq', r1⟩ := Paired.getL hzs e
        cases ez
        refine ⟨by simp [hq'], ?_⟩
        simp only [hq', Option.map_some, Option.getD_some]
        exact r1.2.2.2.1
      · intro i key v e
        have e : (zs.map fun z => (Value.ref z.2.1, z.2.2))[i]? = some (key, v) := e
        rw [List.getElem?_map, Option.map_eq_some_iff] at e
        obtain ⟨z, e', ez⟩ := e
        cases ez
        exact ⟨z.1, z.2.1, e', rfl⟩
      · intro h' k z hz'
        obtain ⟨i, hi⟩ := List.mem_iff_getElem?.mp hz'
        obtain ⟨q, hq', r1⟩ := Paired.getL hzs hi
        obtain ⟨u, its, m, g, rest⟩ := r1.2.2.2.2.1
        exact ⟨u, its, m, k _ _ (Nat.ne_of_lt (Heap.lt_size g)) (by simp) g, rest⟩
      · obtain ⟨o', es, ep, h1, h2, h3, h4, h5, h6⟩ := hd'
        have kt : KT H (mergeT [] more) (storedAllH [] zs) := kt_merge hzs .nil
        have hn : H s.heap.objs.size = none := I.hok.fresh (Nat.le_refl _)
        have hm : (s.heap.objs.size == sysModules) = false := beq_eq_false_iff_ne.mpr (Nat.ne_of_gt I.big)
        have hl : (mergeT [] more).length ≤ sizeLine := by
          have := storedAllH_len zs []
          rw [kt.length]
          simp only [List.length_nil] at this
          omega
        refine ⟨.ref s.heap.objs.size, upd H s.heap.objs.size (.dT (mergeT [] more)), I.laid (t' := tk) (fun b u e => k b u (by simp) e) (Nat.le_refl _) ?_, rfl, hq.dctT ok dr hn⟩
        exact ⟨hl, hm, storedAllH [] zs, kt.keeps fun b ys e => same_upd hn b _ e, o', es, ep, h1, h2, h3, h4, h6⟩
end
end Lf

set_option Elab.async false
set_option linter.all false
set_option maxRecDepth 100000
set_option maxHeartbeats 4000000
/-! Calls of methods; statements. -/
namespace Lf
open PySem PySem.Spec PyProof.Rows L2

section
variable {X : Cx} {er : ER} {C : CallT} {a b c o i e : Expr} {es : List Expr} {x y z : Ex} {xs : Exs} {pos apos : Pos}
theorem pre_list {K : PySem.W.Frag} {ι : Adr} {H : Hp} {S : Store} {v : Vl} {u : V} {G : Unit → Store → Adr → Hp → Prop} (ok : StOk K ι H S) (hv : Rep K ι H v u) (h : Post K er ι H G (preM v S)) :
    tyV K "list" u H ∧ G () S ι H := by
  unfold preM at h
  cases v with
  | d x => exact h.elim
  | scr ns => exact h.elim
  | ref n =>
    simp only at h
    cases q : cellAt S n with
    | none => rw [q] at h; exact h.elim
    | some cl =>
      cases cl with
      | dct kvs => rw [q] at h; exact h.elim
      | lst zs =>
        rw [q] at h
        obtain ⟨a, rfl, hn, ha, ys, he, r⟩ := ref_at ok q hv
        exact ⟨.inl ⟨rfl, ys, SqL.of he⟩, Post.here h ok⟩
theorem snd_mth {f : MF} {n : Str} {id : String} (hm : MtR X id (rM X.K er f)) (slot : Slot "list" n id) (hty : typeOf (.builtin id) = pure (.type "method_descriptor")) (ho : snd X er C o x) (ha : sndVs X er C (a :: es) xs)
    (hbase : attributeBase o n X.env (eval o X.env) = eval o X.env)
    (hfew : ((backTo pos (starEach (a :: es) X.env)).all (fun x => !x.1) && (backToKw pos (keywordEach [] X.env)).all (fun x => x.1.isSome)
      && decide ((a :: es).length + ([] : List Keyword).length + (if ([] : List Keyword).isEmpty then 0 else 1) < 30)) = true)
    (hline : (apos.endLine == pos.line) = true) (hs : starEach (a :: es) X.env = (false, eval a X.env) :: starEach es X.env) (hplain : (backTo pos (starEach es X.env)).any (·.1) = false) :
    snd X er C (.Call (.Attribute o n apos) (a :: es) [] pos) (.mth f x xs) :=
  PE.weak (pe_bm PySem.F.plainAttrs_list slot hty hm ho ha hbase hfew hline hs hplain) fun σ H Q ⟨E, S, ι, hE, hS, h⟩ => by
    unfold ev at h
    refine useV hE hS h fun v S1 ι1 H1 u st ok he hu q => ?_
    obtain ⟨ty, q⟩ := pre_list ok hu (Post.bind q)
    refine ⟨ty, useVs he ok q fun vs S2 ι2 H2 us st2 ok2 he2 hu2 q => ⟨v, vs, S2, ι2, ok2, hu.mono st2, hu2, out_back (fun p hp => st.dom p (st2.dom p hp)) q⟩⟩
theorem snd_mth0 {f : MF} {n : Str} {id : String} (hm : MtR X id (rM X.K er f)) (slot : Slot "list" n id) (hty : typeOf (.builtin id) = pure (.type "method_descriptor")) (ho : snd X er C o x)
    (hbase : attributeBase o n X.env (eval o X.env) = eval o X.env) (hline : (apos.endLine == pos.line) = true) :
    snd X er C (.Call (.Attribute o n apos) [] [] pos) (.mth f x .nil) :=
  PE.weak (pe_bm0 PySem.F.plainAttrs_list slot hty hm ho hbase hline) fun σ H Q ⟨E, S, ι, hE, hS, h⟩ => by
    unfold ev at h
    refine useV hE hS h fun v S1 ι1 H1 u st ok he hu q => ?_
    obtain ⟨ty, q⟩ := pre_list ok hu (Post.bind q)
    unfold evs at q
    exact ⟨ty, v, [], S1, ι1, ok, hu, .nil, out_back st.dom q⟩

/-! ### statements -/
def FlOk (K : PySem.W.Frag) (H0 : Hp) (D : Ends) (r : Fl × Env) (S' : Store) (ι' : Adr) (H' : Hp) : Prop := match r.1 with
  | .nx => ∀ σ', EnvOk K ι' H' r.2 σ' → D.nx σ' H'
  | .bk => ∀ σ', EnvOk K ι' H' r.2 σ' → D.bk σ' H'
  | .ct => ∀ σ', EnvOk K ι' H' r.2 σ' → D.ct σ' H'
  | .rt o => ∀ u, OutOk K H0 ι' H' S' o u → D.rt u H'
def tS (K : PySem.W.Frag) (er : ER) (m : Env → M (Fl × Env)) : TS := fun D σ H => ∃ E S ι, EnvOk K ι H E σ ∧ StOk K ι H S ∧ Post K er ι H (FlOk K H D) (m E S)
abbrev sndS (X : Cx) (er : ER) (C : CallT) (st : Stmt) (s : Sm) : Prop := PS X st (tS X.K er (exec C s))
abbrev sndSs (X : Cx) (er : ER) (C : CallT) (st : List Stmt) (s : Sms) : Prop := PSs X st (tS X.K er (execs C s))
theorem FlOk.back {K : PySem.W.Frag} {H0 H1 : Hp} {D : Ends} {r : Fl × Env} {S' : Store} {ι' : Adr} {H' : Hp} (hd : ∀ a, H1 a = none → H0 a = none) (h : FlOk K H0 D r S' ι' H') : FlOk K H1 D r S' ι' H' := by
  unfold FlOk at h ⊢
  cases q : r.1 with
  | rt o => rw [q] at h; exact fun u hu => h u (hu.back hd)
  | nx => rw [q] at h; exact h
  | bk => rw [q] at h; exact h
  | ct => rw [q] at h; exact h
theorem fl_back {K : PySem.W.Frag} {ι1 : Adr} {H H1 : Hp} {D : Ends} {r : Res (Fl × Env)} (hd : ∀ a, H1 a = none → H a = none) (q : Post K er ι1 H1 (FlOk K H D) r) : Post K er ι1 H1 (FlOk K H1 D) r :=
  q.imp fun _ _ _ _ _ _ g => g.back hd
theorem fl_nx {K : PySem.W.Frag} {ι : Adr} {H H0 : Hp} {D : Ends} {E : Env} {S : Store} {σ : L2.St} (h : Post K er ι H (FlOk K H0 D) (M.pure (.nx, E) S)) (ok : StOk K ι H S) (he : EnvOk K ι H E σ) : D.nx σ H := Post.pure h ok σ he
theorem s_asg1 {t : Nat} {n : Str} {py : Pos} (hp : PS X (.Assign [.Name n py] e pos) (tAsg (tE X.K er (ev C x)) (gName t))) : sndS X er C (.Assign [.Name n py] e pos) (.asg (.nm t) x) :=
  PS.weak hp fun D σ H ⟨E, S, ι, hE, hS, h⟩ => by
    unfold exec at h
    refine useO hE hS h fun o S1 ι1 H1 u st ok he hu q => ?_
    obtain ⟨E', e1, q⟩ := (Post.bind q).lift ok
    have e1 : E.set t (some (settle o)) = E' := Option.some.inj e1
    subst e1
    exact fl_nx q ok (he.set hu.settle)
theorem s_asg {t : Nat} {n : Str} {py : Pos} (hu : Sur X) (hi : X.N[t]? = some n) (hx : Loc X.env.scope n) (he : snd X er C e x) (hs : swapsWith e (some (.Name n py)) pos.line X.env = pure false)
    (hf : X.fn n = true ∨ X.env.scope.names.lookup n = some .local) : sndS X er C (.Assign [.Name n py] e pos) (.asg (.nm t) x) :=
  s_asg1 (ps_set hu.nd hi hx he hs hf)
theorem s_asgT {ts : Tgs} {ns : List Expr} {k : Nat} {tp : Pos} (he : snd X er C e x) (hg : sndG X (.Tuple ns k tp) (.tp ts)) (hs : swapsWithSole [.Tuple ns k tp] e pos.line X.env = pure false) (hw : swappedStores [.Tuple ns k tp] e X.env = pure none)
    (h1 : (assignEach [.Tuple ns k tp] X.env).map (·.2) = [assign (.Tuple ns k tp) X.env]) : sndS X er C (.Assign [.Tuple ns k tp] e pos) (.asg (.tp ts) x) :=
  PS.weak (ps_asg he hg hs hw h1) fun D σ H ⟨E, S, ι, hE, hS, h⟩ => by
    unfold exec at h
    refine useO hE hS h fun o S1 ι1 H1 u st ok he hu q => ?_
    obtain ⟨E', e1, q⟩ := (Post.bind q).lift ok
    have hu := hu.settle
    unfold bindO at e1
    simp only at e1
    split at e1
    · rename_i ds hd
      rw [hd] at hu
      exact ⟨E, .tuple ds, S1, ι1, E', he, hu, ok, e1, fun σ' h' _ => fl_nx q ok h'⟩
    · rename_i ds hd
      rw [hd] at hu
      exact ⟨E, .list ds, S1, ι1, E', he, hu, ok, e1, fun σ' h' _ => fl_nx q ok h'⟩
    · cases e1
theorem s_setI {tpos : Pos} (hu0 : Sur X) (hv : snd X er C e z) (ho : snd X er C o x) (hi : snd X er C i y) (ha : ∀ v, assign (.Subscript o i tpos) X.env v = (do
      let ov ← holding [v] (eval o X.env)
      let iv ← holding [v, ov] (eval i X.env)
      standAt tpos
      holding [v, ov, iv] (setItem ov iv v)
      release [v, ov, iv] [])) (hs : swapsWithSole [.Subscript o i tpos] e pos.line X.env = pure false) (hw : swappedStores [.Subscript o i tpos] e X.env = pure none)
    (h1 : (assignEach [.Subscript o i tpos] X.env).map (·.2) = [assign (.Subscript o i tpos) X.env]) : sndS X er C (.Assign [.Subscript o i tpos] e pos) (.setI x y z) :=
  PS.weak (ps_asg hv (pg_sub ho hi (set_any (by have := hu0.un; omega)) ha) hs hw h1) fun D σ H ⟨E, S, ι, hE, hS, h⟩ => by
    unfold exec at h
    refine useD hE hS h fun d S1 ι1 H1 u st ok he hu q => useV he ok q fun v S2 ι2 H2 u2 st2 ok2 he2 hu2 q => useD he2 ok2 q fun k S3 ι3 H3 u3 st3 ok3 he3 hu3 q => ?_
    have q := Post.bind q
    have hu2 := hu2.mono st3
    have hu := (hu.mono st2).mono st3
    unfold setM at q
    cases v with
    | d x => exact q.elim
    | scr ns => exact q.elim
    | ref n =>
      simp only at q
      cases qc : cellAt S3 n with
      | none => rw [qc] at q; exact q.elim
      | some cl =>
        cases cl with
        | dct kvs =>
          rw [qc] at q
          obtain ⟨p, rfl, hn, hp, hcell⟩ := ref_at ok3 qc hu2
          simp only at q
          cases qp : putO kvs k d with
          | none => rw [qp] at q; exact q.elim
          | some ds' =>
            rw [qp] at q
            have hm := mem_at.mpr ⟨n, hp⟩
            obtain ⟨H', o', g, eH, hc'⟩ := put_cell (.inl hm) hcell hu3 hu qp
            obtain ⟨o, ho, _⟩ := hcell.isSome
            subst eH
            have st4 := Step.put (o' := o') hm ho
            have ok4 := ok3.put (c' := .dct ds') (o' := o') hn hp hc'
            exact .inr ⟨p, _, rfl, g, fl_nx (q ι3 _ st4 ok4) ok4 (he3.mono st4)⟩
        | lst zs =>
          rw [qc] at q
          obtain ⟨p, rfl, hn, hp, ys, hy, r⟩ := ref_at ok3 qc hu2
          cases k with
          | int kk =>
            simp only at q
            cases qi : ixN zs.length kk with
            | none => rw [qi] at q; exact q.elim
            | some j =>
              rw [qi] at q
              cases hu3
              have hm := mem_at.mpr ⟨n, hp⟩
              have st4 := Step.put (o' := HO.lst (ys.set j u)) hm hy
              have ok4 := ok3.put (c' := .lst (zs.set j d)) (o' := HO.lst (ys.set j u)) hn hp ⟨_, upd_same, (r.set hu j).map (put_map hm)⟩
              refine .inl ⟨p, ys, kk, j, rfl, rfl, hy, by rw [← r.len]; exact qi, ?_⟩
              exact fl_nx (q ι3 _ st4 ok4) ok4 (he3.mono st4)
          | none => exact q.elim
          | bool b => exact q.elim
          | str b => exact q.elim
          | list b => exact q.elim
          | tuple b => exact q.elim
          | dict b => exact q.elim
theorem s_expr (he : snd X er C e x) (hs : swapsWith e none pos.line X.env = pure false) : sndS X er C (.Expr e pos) (.expr x) :=
  PS.weak (ps_expr he hs) fun D σ H ⟨E, S, ι, hE, hS, h⟩ => by
    unfold exec at h
    exact useO hE hS h fun o S1 ι1 H1 u st ok he hu q => fl_nx q ok he
theorem s_ret (he : snd X er C e x) : sndS X er C (.Return (some e) pos) (.ret x) :=
  PS.weak (ps_ret he) fun D σ H ⟨E, S, ι, hE, hS, h⟩ => by
    unfold exec at h
    exact useO hE hS h fun o S1 ι1 H1 u st ok he hu q => Post.pure q ok u hu
theorem s_retN : sndS X er C (.Return none pos) .retN :=
  PS.weak ps_retN fun D σ H ⟨E, S, ι, hE, hS, h⟩ => by
    unfold exec at h
    exact Post.pure h hS V.non RD.non
theorem s_pass : sndS X er C (.Pass pos) .pass := PS.weak ps_pass fun D σ H ⟨E, S, ι, hE, hS, h⟩ => by
  unfold exec at h
  exact Post.pure h hS σ hE
theorem s_brk : sndS X er C (.Break pos) .brk := PS.weak ps_break fun D σ H ⟨E, S, ι, hE, hS, h⟩ => by
  unfold exec at h
  exact Post.pure h hS σ hE
theorem s_cnt : sndS X er C (.Continue pos) .cnt := PS.weak ps_continue fun D σ H ⟨E, S, ι, hE, hS, h⟩ => by
  unfold exec at h
  exact Post.pure h hS σ hE
theorem s_never {s : Stmt} {k : Nat} {t : Str} : sndS X er C s (.raise k t) := PS.weak ps_never fun D σ H ⟨E, S, ι, hE, hS, h⟩ => by
  unfold exec at h
  exact h
theorem s_ite {A B : List Stmt} {p q : Sms} (hc : sndT X er C c x) (ha : sndSs X er C A p) (hb : sndSs X er C B q) : sndS X er C (.If c A B pos) (.ite x p q) :=
  PS.weak (ps_if hc ha hb) fun D σ H ⟨E, S, ι, hE, hS, h⟩ => by
    unfold exec at h
    refine useB hE hS h fun k S1 ι1 H1 st ok he q => ?_
    cases k with
    | true => exact iteT ⟨E, S1, ι1, he, ok, fl_back st.dom q⟩
    | false => exact iteF ⟨E, S1, ι1, he, ok, fl_back st.dom q⟩
theorem ss_nil : sndSs X er C [] .nil := PSs.weak pss_nil fun D σ H ⟨E, S, ι, hE, hS, h⟩ => by
  unfold execs at h
  exact Post.pure h hS σ hE
theorem ss_cons {st : Stmt} {rest : List Stmt} {s : Sm} {ss : Sms} (h1 : sndS X er C st s) (h2 : sndSs X er C rest ss) : sndSs X er C (st :: rest) (.cons s ss) :=
  PSs.weak (pss_cons h1 h2) fun D σ H ⟨E, S, ι, hE, hS, h⟩ => by
    unfold execs at h
    refine ⟨E, S, ι, hE, hS, h.bind.imp fun r S1 ι1 H1 st ok q => ?_⟩
    unfold FlOk
    cases qr : r.1 with
    | nx => rw [qr] at q; exact fun σ' he => ⟨r.2, S1, ι1, he, ok, fl_back st.dom q⟩
    | bk => rw [qr] at q; have g := Post.pure q ok; unfold FlOk at g; rw [qr] at g; exact g
    | ct => rw [qr] at q; have g := Post.pure q ok; unfold FlOk at g; rw [qr] at g; exact g
    | rt o => rw [qr] at q; have g := Post.pure q ok; unfold FlOk at g; rw [qr] at g; exact g
/-- a cell is frozen -/
theorem ss_frz {k : Nat} {sts : List Stmt} {ss : Sms} (h2 : sndSs X er C sts ss) : sndSs X er C sts (.cons (.frz k) ss) :=
  PSs.weak h2 fun D σ H ⟨E, S, ι, hE, hS, h⟩ => by
    unfold execs at h
    have h := h.bind
    unfold exec at h
    cases q : (E[k]?).bind id with
    | none => simp only [q] at h; exact h.elim
    | some v =>
      cases v with
      | d x => simp only [q] at h; exact h.elim
      | scr ns => simp only [q] at h; exact h.elim
      | ref n =>
        simp only [q] at h
        have hk : E[k]? = some (some (.ref n)) := by
          cases z : E[k]? with
          | none => rw [z] at q; cases q
          | some oo => rw [z] at q; simp at q; rw [q]
        obtain ⟨u, hu, r⟩ := hE.2 k _ hk
        cases qd : toD S (.ref n) with
        | none => simp only [qd] at h; exact h.elim
        | some x =>
          simp only [qd] at h
          obtain ⟨cl, hcl, hx⟩ : ∃ cl, cellAt S n = some cl ∧ (match cl with
              | .lst xs => x = .list xs
              | .dct kvs => x = .dict kvs) := by
            unfold toD at qd
            simp only at qd
            cases z : cellAt S n with
            | none => rw [z] at qd; cases qd
            | some cl =>
              rw [z] at qd
              cases cl with
              | lst xs => exact ⟨_, rfl, (Option.some.inj qd).symm⟩
              | dct xs => exact ⟨_, rfl, (Option.some.inj qd).symm⟩
          obtain ⟨a, rfl, hn, ha, hc⟩ := ref_at hS hcl r
          let ι' : Adr := ⟨ι.at_.set n none, ι.hid⟩
          have hnl : n < ι.at_.length := (List.getElem?_eq_some_iff.mp ha).1
          have at' : ∀ {m : Nat} {b : Addr}, ι'.at_[m]? = some (some b) → m ≠ n ∧ ι.at_[m]? = some (some b) := fun {m b} e => by
            have e : (ι.at_.set n none)[m]? = some (some b) := e
            by_cases z : n = m
            · subst z; rw [List.getElem?_set_self hnl] at e; cases e
            · rw [List.getElem?_set_ne z] at e; exact ⟨fun w => z w.symm, e⟩
          have sub : ∀ b, ι'.av b → ι.av b := fun b z => z.imp (fun z => let ⟨m, e⟩ := mem_at.mp z; mem_at.mpr ⟨m, (at' e).2⟩) id
          have na : ¬ ι'.av a := fun z => z.elim (fun z => by
            obtain ⟨m, e⟩ := mem_at.mp z
            exact (at' e).1 (hS.inj m n a (at' e).2 ha)) fun z => (hS.hid a z).1 (mem_at.mpr ⟨n, ha⟩)
          have st : Step ι H ι' H := ⟨by simp [ι'], fun m b _ e => (at' e).2, fun m b hm e => absurd (List.getElem?_eq_some_iff.mp (at' e).2).1 (Nat.not_lt.mpr hm), fun _ _ h _ => h, fun _ h => .inl h, fun _ h => h, fun _ h => h⟩
          have f : ∀ b o, H b = some o → ¬ ι.av b → H b = some o ∧ ¬ ι'.av b := fun b o h n => ⟨h, fun z => n (sub b z)⟩
          have ok' : StOk X.K ι' H (S.set n none) := ⟨by simp [ι', hS.len], fun m d e => by
              by_cases z : n = m
              · subst z; rw [List.getElem?_set_self (List.getElem?_eq_some_iff.mp hn).1] at e; cases e
              · rw [List.getElem?_set_ne z] at e
                obtain ⟨b, h1, h2⟩ := hS.cell m d e
                exact ⟨b, by show (ι.at_.set n none)[m]? = _; rw [List.getElem?_set_ne z]; exact h1, h2.map f rfl⟩,
            fun m e => by
              show (ι.at_.set n none)[m]? = _
              by_cases z : n = m
              · subst z; rw [List.getElem?_set_self hnl]
              · rw [List.getElem?_set_ne z] at e ⊢; exact hS.dead m e,
            fun m m' b e1 e2 => hS.inj m m' b (at' e1).2 (at' e2).2, fun b hb => by
              obtain ⟨h1, h2⟩ := hS.hid b hb
              exact ⟨fun z => by obtain ⟨m, e⟩ := mem_at.mp z; exact h1 (mem_at.mpr ⟨m, (at' e).2⟩), h2⟩⟩
          have rx : RD X.K ι' H x (.ref a) := by
            cases cl with
            | lst xs =>
              simp only at hx
              subst hx
              obtain ⟨ys, e, r⟩ := hc
              exact RD.lst e na (r.map f)
            | dct kvs =>
              simp only at hx
              subst hx
              rcases hc with ⟨ks, e, e2, r⟩ | ⟨ks, e, e2, r⟩
              · exact RD.dicK (.of e) na e2 (r.map f)
              · exact RD.dicT (.of e) na e2 (r.map f)
          have he := (hE.mono st).set (i := k) (v := .d x) (u := .ref a) rx
          have es : σ.set k (some (.ref a)) = σ := by
            apply List.ext_getElem?
            intro j
            by_cases z : k = j
            · subst z; rw [List.getElem?_set_self (List.getElem?_eq_some_iff.mp hu).1, hu]
            · rw [List.getElem?_set_ne z]
          rw [es] at he
          exact ⟨_, _, ι', he, ok', h ι' H st ok'⟩
end
end Lf

set_option Elab.async false
set_option linter.all false
set_option maxRecDepth 100000
set_option maxHeartbeats 4000000
/-! Loops. -/
namespace Lf
open PySem PySem.Spec PyProof.Rows L2

section
variable {X : Cx} {er : ER} {C : CallT} {pos : Pos}
theorem s_loop {tg iter : Expr} {body : List Stmt} {t : Tg} {it : Ir} {b : Sms} (hp : PassesOwn (model X.prog X.w) X.A X.env X.xe) (hu : Sur X) (hi : sndI X er C tg iter it) (hg : sndG X tg t) (hb : sndSs X er C body b)
    (hs : ∀ x, foldedSetIterable iter X.env x = pure x) : sndS X er C (.For tg iter body [] pos) (.loop t it b) :=
  PS.weak (ps_for hp hu.calm hi hg hb hs) fun D σ H ⟨E, S, ι, hE, hS, h⟩ => by
    unfold exec at h
    refine ⟨E, S, ι, hE, hS, h.bind.imp fun items S1 ι1 H1 st ok1 q J src => ?_⟩
    let W : Nat → Nat → L2.St → Hp → Prop := fun i m σ Hc => m = items.length - i ∧ i ≤ items.length ∧ ∃ E' S' ι', Step ι1 H1 ι' Hc ∧ EnvOk X.K ι' Hc E' σ ∧ StOk X.K ι' Hc S' ∧
      Post X.K er ι' Hc (FlOk X.K H1 D) (loopL (fun x E => bindT t x E) (fun E => execs C b E) (items.drop i) E' S')
    refine ⟨W, ⟨_, rfl, Nat.zero_le _, E, S1, ι1, Step.refl _ _, hE.mono st, ok1, fl_back st.dom q⟩, ?_⟩
    rintro i m σ1 Hc ⟨rfl, hi, E', S', ι', s', he', ok', pp⟩
    have src' := src ι' Hc S' s' ok' i
    by_cases hlt : i < items.length
    · have hit : items[i]? = some items[i] := List.getElem?_eq_getElem hlt
      obtain ⟨go, yl⟩ := src'.1 _ hit
      refine .inr ⟨go, W (i + 1) (items.length - (i + 1)), fun σ' H' w => ⟨_, by omega, w⟩, fun x H'' y => ?_⟩
      obtain ⟨sm, rx⟩ := yl x H'' y
      rw [List.drop_eq_getElem_cons hlt] at pp
      unfold loopL at pp
      have pp := pp.same sm
      have ok2 := ok'.same sm
      have s2 : Step ι1 H1 ι' H'' := s'.trans (Step.same sm)
      obtain ⟨E1, e1, pp⟩ := (Post.bind pp).lift ok2
      refine ⟨E', _, S', ι', E1, he'.mono (Step.same sm), rx, ok2, e1, fun σ2 hE1 _ => ⟨E1, S', ι', hE1, ok2, pp.bind.imp fun r S2 ι2 H2 st2 ok3 q => ?_⟩⟩
      have dm : ∀ a, H'' a = none → H1 a = none := s2.dom
      unfold FlOk
      cases qr : r.1 with
      | nx => rw [qr] at q; exact fun σ' he => ⟨rfl, hlt, r.2, S2, ι2, s2.trans st2, he, ok3, q⟩
      | ct => rw [qr] at q; exact fun σ' he => ⟨rfl, hlt, r.2, S2, ι2, s2.trans st2, he, ok3, q⟩
      | bk => rw [qr] at q; exact fun σ' he => Post.pure q ok3 σ' he
      | rt o => rw [qr] at q; exact fun u hu => Post.pure q ok3 u (hu.back dm)
    · have e : i = items.length := by omega
      subst e
      refine .inl ⟨src'.2 (Nat.le_refl _), ?_⟩
      rw [List.drop_length] at pp
      exact Post.pure pp ok' σ1 he'
theorem s_whl {c : Expr} {body : List Stmt} {x : Ex} {b : Sms} (hp : PassesOwn (model X.prog X.w) X.A X.env X.xe) (hc : sndT X er C c x) (hb : sndSs X er C body b) : sndS X er C (.While c body [] pos) (.whl x b) :=
  PS.weak (ps_while hp hc hb) fun D σ H ⟨E, S, ι, hE, hS, h⟩ => by
    unfold exec at h
    let W : Nat → L2.St → Hp → Prop := fun m σ Hc => ∃ E' S' ι', Step ι H ι' Hc ∧ EnvOk X.K ι' Hc E' σ ∧ StOk X.K ι' Hc S' ∧
      Post X.K er ι' Hc (FlOk X.K H D) (whileL (fun E => evT C x E) (fun E => execs C b E) m E' S')
    refine ⟨W, ⟨lim, E, S, ι, Step.refl _ _, hE, hS, h⟩, ?_⟩
    rintro m σ1 Hc ⟨E', S', ι', s', he', ok', pp⟩
    cases m with
    | zero => exact pp.elim
    | succ m =>
      unfold whileL at pp
      refine useB he' ok' pp fun k S1 ι1 H1 st ok1 he1 q => ?_
      cases k with
      | false =>
        rw [if_neg (by decide)]
        exact Post.pure q ok1 σ1 he1
      | true =>
        rw [if_pos rfl]
        refine ⟨W m, fun σ' H' w => ⟨m, by omega, w⟩, ?_⟩
        have q := (show Post X.K er ι1 H1 (FlOk X.K H D) (M.bind (execs C b E') _ S1) from q)
        refine ⟨E', S1, ι1, he1, ok1, q.bind.imp fun r S2 ι2 H2 st2 ok2 q => ?_⟩
        have s2 := s'.trans st
        unfold FlOk
        cases qr : r.1 with
        | nx => rw [qr] at q; exact fun σ' he => ⟨r.2, S2, ι2, s2.trans st2, he, ok2, q⟩
        | ct => rw [qr] at q; exact fun σ' he => ⟨r.2, S2, ι2, s2.trans st2, he, ok2, q⟩
        | bk => rw [qr] at q; exact fun σ' he => Post.pure q ok2 σ' he
        | rt o => rw [qr] at q; exact fun u hu => Post.pure q ok2 u (hu.back s2.dom)
end
end Lf

set_option Elab.async false
set_option linter.all false
set_option maxRecDepth 100000
set_option maxHeartbeats 4000000
/-! Dicts: get, pop. -/
namespace Lf
open PySem PySem.Spec PyProof.Rows L2
section
variable {X : Cx} {er : ER} {C : CallT} {a k d : Expr} {x y z : Ex} {cpos apos : Pos}
theorem isD_rc {K : PySem.W.Frag} {ι : Adr} {H : Hp} {ds : List (PyData × PyData)} {u : V} (h : RC K ι H (.dict ds) u) : ∃ a, u = .ref a ∧ IsD H a := by
  obtain ⟨a, e, ⟨kvs, h1, _⟩ | ⟨kvs, h1, _⟩⟩ := h.rows
  · exact ⟨a, e, .inl ⟨kvs, h1⟩⟩
  · exact ⟨a, e, .inr ⟨kvs, h1⟩⟩
theorem pre_dict {K : PySem.W.Frag} {ι : Adr} {H : Hp} {S : Store} {v : Vl} {u : V} {G : Unit → Store → Adr → Hp → Prop} (ok : StOk K ι H S) (hv : Rep K ι H v u) (h : Post K er ι H G (preDM v S)) :
    (∃ a, u = .ref a ∧ IsD H a) ∧ G () S ι H := by
  unfold preDM at h
  split at h
  · rename_i ds e
    exact ⟨isD_rc (hv.toD ok e), Post.here h ok⟩
  · exact h.elim
theorem hit_get {K : PySem.W.Frag} {ι : Adr} {H : Hp} {o : Option PyData} {r : Option V} {w : PyData} {v : V} (h : Hit K ι H o r) (hw : RC K ι H w v) (wd : RD K ι H w v ∨ o ≠ none) : RD K ι H (o.getD w) (r.getD v) := by
  cases o with
  | some d =>
    obtain ⟨t, rfl, ht⟩ := h
    exact ht
  | none =>
    have h : r = none := h
    subst h
    rcases wd with wd | wd
    · exact wd
    · exact absurd rfl wd
theorem snd_dgt1 (hu : Sur X) (ha : snd X er C a x) (hk : snd X er C k y) (m : M1 X a "get" apos k cpos) : snd X er C (.Call (.Attribute a "get" apos) [k] [] cpos) (.dgt x y) :=
  PE.weak (pe_dget1 (by have := hu.un; omega) ha hk m) fun σ H Q ⟨E, S, ι, hE, hS, h⟩ => by
    unfold ev at h
    refine useV hE hS h fun v S1 ι1 H1 u st ok he hu1 q => ?_
    obtain ⟨⟨p, rfl, hp⟩, q⟩ := pre_dict ok hu1 (Post.bind q)
    refine ⟨p, rfl, hp, useD he ok q fun kx S2 ι2 H2 u2 st2 ok2 he2 hu2 q => ?_⟩
    obtain ⟨dx, e2, q⟩ := (Post.bind q).toD ok2
    have r2 := (hu1.mono st2).toD ok2 e2
    obtain ⟨out, e3, w⟩ := fin_out q ok2 (fun p hp => st.dom p (st2.dom p hp)) fun _ _ _ _ g => g
    unfold getO at e3
    cases dx <;> simp only at e3 <;> try (cases e3; done)
    rename_i ds
    cases qo : dgetO ds kx with
    | none => rw [qo] at e3; cases e3
    | some o =>
      rw [qo] at e3
      cases e3
      obtain ⟨a', r, e4, g, hr⟩ := dget_of r2 (.inl hu2) qo
      cases e4
      exact ⟨r, g, w.d (hit_get hr (.inl .non) (.inl .non))⟩
theorem snd_dgt2 (hu : Sur X) (ha : snd X er C a x) (hk : snd X er C k y) (hd : snd X er C d z) (m : M2 X a "get" apos k d cpos) : snd X er C (.Call (.Attribute a "get" apos) [k, d] [] cpos) (.dgt2 x y z) :=
  PE.weak (pe_dget2 (by have := hu.un; omega) ha hk hd m) fun σ H Q ⟨E, S, ι, hE, hS, h⟩ => by
    unfold ev at h
    refine useV hE hS h fun v S1 ι1 H1 u st ok he hu1 q => ?_
    obtain ⟨⟨p, rfl, hp⟩, q⟩ := pre_dict ok hu1 (Post.bind q)
    refine ⟨p, rfl, hp, useD he ok q fun kx S2 ι2 H2 u2 st2 ok2 he2 hu2 q => useD he2 ok2 q fun wx S3 ι3 H3 u3 st3 ok3 he3 hu3 q => ?_⟩
    obtain ⟨dx, e2, q⟩ := (Post.bind q).toD ok3
    have r1 := hu2.mono st3
    have r2 := ((hu1.mono st2).mono st3).toD ok3 e2
    obtain ⟨out, e3, w⟩ := fin_out q ok3 (fun p hp => st.dom p (st2.dom p (st3.dom p hp))) fun _ _ _ _ g => g
    unfold getO at e3
    cases dx <;> simp only at e3 <;> try (cases e3; done)
    rename_i ds
    cases qo : dgetO ds kx with
    | none => rw [qo] at e3; cases e3
    | some o =>
      rw [qo] at e3
      cases e3
      obtain ⟨a', r, e4, g, hr⟩ := dget_of r2 (.inl r1) qo
      cases e4
      exact ⟨r, g, w.d (hit_get hr (.inl hu3) (.inl hu3))⟩
/-! ### d.pop(k, w) of tuple keys -/
def tPopT (td ty tx : TE) : TE := fun σ H Q => td σ H fun x H1 => ∃ a, x = .ref a ∧ IsD H1 a ∧ ty σ H1 fun y H2 => tx σ H2 fun z H3 => ∃ (kvs : List (List Key × V)) (k : List Key) (b : Addr), H3 a = some (.dT kvs) ∧ y = .ref b ∧ H3 b = some (.tup (k.map kV)) ∧
  (∀ v, valV kvs k = some v → Q v (upd H3 a (.dT (dropK kvs k)))) ∧ (valV kvs k = none → Q z H3)
theorem pe_popT {o e f : Expr} {td ty tx : TE} (hu : X.A.units + 1 < cLine) (ho : PE X o td) (he : PE X e ty) (hf : PE X f tx) (m : M2 X o "pop" apos e f cpos) : PE X (.Call (.Attribute o "pop" apos) [e, f] [] cpos) (tPopT td ty tx) := by
  refine ⟨fun pins s σ H Q I h => ?_⟩
  refine wpAny_Call_method m.base m.few m.line PySem.F.plainAttrs_dict PySem.F.slot_dict_pop PySem.F.type_dict_pop (thn (ho.run pins s σ H _ I h) fun u s1 ⟨x, H1, I1, rx, a, ex, d, q1⟩ => ?_)
  subst ex
  obtain rfl : u = Value.ref a := rx
  obtain ⟨t1, t2, _⟩ := isD_at I1 d
  refine ⟨t1, t2, ?_⟩
  rw [m.trees]
  refine Calls.callWith_builtin rfl (Calls.evalArgs_plain (Calls.spliced_cons (thn (he.run pins s1 σ H1 _ I1 q1) fun iv s2 ⟨y, H2, I2, ry, q2⟩ =>
    Calls.spliced_cons (thn (hf.run pins s2 σ H2 _ I2 q2) fun fv s3 ⟨z, H3, I3, rz, kvs, k, b, ea, ey, eb, q3, q4⟩ => Calls.spliced_nil ?_))))
  subst ey
  exact L2.DX.mt_popT hu pins s3 σ H3 (.ref a) [.ref b, z] (.ref a) [iv, fv] Q I3 rfl (.cons ry (.cons rz .nil)) ⟨a, kvs, k, b, z, rfl, rfl, ea, eb, q3, q4⟩
theorem snd_dpop (hu : Sur X) (ha : snd X er C a x) (hk : snd X er C k y) (hd : snd X er C d z) (m : M2 X a "pop" apos k d cpos) : snd X er C (.Call (.Attribute a "pop" apos) [k, d] [] cpos) (.dpop x y z) :=
  PE.weak (pe_popT (by have := hu.un; omega) ha hk hd m) fun σ H Q ⟨E, S, ι, hE, hS, h⟩ => by
    unfold ev at h
    refine useV hE hS h fun v S1 ι1 H1 u st ok he hu1 q => ?_
    obtain ⟨⟨p, rfl, hp⟩, q⟩ := pre_dict ok hu1 (Post.bind q)
    refine ⟨p, rfl, hp, useD he ok q fun kx S2 ι2 H2 u2 st2 ok2 he2 hu2 q => useD he2 ok2 q fun wx S3 ι3 H3 u3 st3 ok3 he3 hu3 qq => ?_⟩
    have r1 := hu2.mono st3
    have r2 := (hu1.mono st2).mono st3
    have dm : ∀ a, H3 a = none → H a = none := fun p hp => st.dom p (st2.dom p (st3.dom p hp))
    unfold popDM at qq
    cases v with
    | d _ => exact qq.elim
    | scr _ => exact qq.elim
    | ref n =>
      simp only at qq
      split at qq
      · rename_i ds qc
        obtain ⟨p', e4, hn, hp', hcell⟩ := ref_at ok3 qc r2
        cases e4
        split at qq
        · rename_i dk qk
          split at qq
          · rename_i c
            rw [Bool.and_eq_true] at c
            rcases (show RC X.K ι3 H3 kx u2 from .inl r1).at_key qk with ⟨j, rfl, rfl, rfl⟩ | ⟨j, b, rfl, rfl, rfl, hb⟩
            · simp [isT] at c
            · rcases hcell with ⟨kvs, h1, ⟨h0, h2⟩, h3⟩ | ⟨kvs, h1, h2, h3⟩
              · exact absurd (kind_K (DR.of h2 h3) c.1) h0
              · have dr : DR fT X.K ι3 H3 ds kvs := .of h2 h3
                have ht := dr.at gT injT j
                have hm := mem_at.mpr ⟨n, hp'⟩
                refine ⟨kvs, j, b, h1, rfl, hb, fun w hw => ?_, fun hw => ?_⟩
                · cases z : dictAt ds (.t j) with
                  | none => rw [z] at ht; rw [show valV kvs j = none from ht] at hw; cases hw
                  | some t =>
                    rw [z] at ht qq
                    obtain ⟨t', e5, rt⟩ := ht
                    rw [hw] at e5
                    cases e5
                    have dr' := dr.drop gT injT j
                    have st4 := Step.put (o' := HO.dT (dropK kvs j)) hm h1
                    have ok4 := ok3.put (c' := .dct (dctDrop ds (.t j))) (o' := HO.dT (dropK kvs j)) hn hp' (.inr ⟨_, upd_same, dr'.keys, dr'.vals.map (put_map hm)⟩)
                    exact qq ι3 _ st4 ok4 w (rt.map (put_map hm))
                · cases z : dictAt ds (.t j) with
                  | some t => rw [z] at ht; obtain ⟨t', e5, _⟩ := ht; rw [hw] at e5; cases e5
                  | none =>
                    rw [z] at qq
                    exact Post.here qq ok3 u3 hu3
          · exact qq.elim
        · exact qq.elim
      · exact qq.elim
end
end Lf

set_option Elab.async false
set_option linter.all false
set_option maxRecDepth 100000
set_option maxHeartbeats 4000000
/-! Things that are walked while they are locked; enumerate, zip. -/
namespace Lf
open PySem PySem.Spec PyProof.Rows L2

/-! ### enumerate, zip -/
section
variable {K : PySem.W.Frag} {ι : Adr} {H : Hp}
theorem enum_at : ∀ (xs : List PyData) (n i : Nat) (it : PyData), (enumL n xs)[i]? = some it → ∃ x, xs[i]? = some x ∧ it = .tuple [.int ((n + i : Nat) : Int), x]
  | [], n, i, it, h => by simp [enumL] at h
  | x :: xs, n, 0, it, h => by
    simp [enumL] at h
    exact ⟨x, rfl, by rw [← h]; rfl⟩
  | x :: xs, n, i + 1, it, h => by
    simp only [enumL, List.getElem?_cons_succ] at h
    obtain ⟨y, h1, h2⟩ := enum_at xs (n + 1) i it h
    refine ⟨y, by simpa using h1, ?_⟩
    rw [h2, show n + 1 + i = n + (i + 1) by omega]
theorem enum_len : ∀ (xs : List PyData) (n : Nat), (enumL n xs).length = xs.length
  | [], _ => rfl
  | x :: xs, n => by simp [enumL, enum_len xs]
theorem src_enum {a : Addr} {xs : List PyData} {ys : List V} (ha : H a = some (.lst ys)) (na : ¬ ι.av a) (r : RDs K ι H xs ys) : Src K (Ite K a) ι H (enumL 0 xs) := fun ι' H' S' st ok i => by
  have h' := st.keep a _ ha fun z => na (.inl z)
  refine ⟨fun it hi => ?_, fun hl => ⟨ys, SqL.of h', by rw [← r.len, ← enum_len xs 0]; exact hl⟩⟩
  obtain ⟨x, hx, rfl⟩ := enum_at xs 0 i it hi
  obtain ⟨v, hv, rv⟩ := r.get hx
  refine ⟨⟨ys, v, SqL.of h', hv⟩, fun z H'' y => ?_⟩
  obtain ⟨T, x', rfl, hT, rfl, hx'⟩ := y
  have e := hx' ys (SqL.of h')
  rw [hv] at e
  cases e
  refine ⟨same_upd hT, RD.tup upd_same (fresh_off ok hT) (.cons ?_ (.cons ((rv.mono st).mono (Step.same (same_upd hT))) .nil))⟩
  rw [Nat.zero_add]
  exact .int _
theorem src_zip {a b : Addr} {xs xs2 : List PyData} {ys ys2 : List V} (ha : H a = some (.lst ys)) (na : ¬ ι.av a) (r : RDs K ι H xs ys) (hb : H b = some (.lst ys2)) (nb : ¬ ι.av b) (r2 : RDs K ι H xs2 ys2) :
    Src K (Itz K a b) ι H ((xs.zip xs2).map fun p => .tuple [p.1, p.2]) := fun ι' H' S' st ok i => by
  have h' := st.keep a _ ha fun z => na (.inl z)
  have h2' := st.keep b _ hb fun z => nb (.inl z)
  refine ⟨fun it hi => ?_, fun hl => ⟨ys, ys2, SqL.of h', SqL.of h2', ?_⟩⟩
  · rw [List.getElem?_map] at hi
    cases q : (xs.zip xs2)[i]? with
    | none => rw [q] at hi; cases hi
    | some p =>
      rw [q] at hi
      cases hi
      obtain ⟨q1, q2⟩ := List.getElem?_zip_eq_some.mp q
      obtain ⟨v, hv, rv⟩ := r.get q1
      obtain ⟨v2, hv2, rv2⟩ := r2.get q2
      refine ⟨⟨ys, ys2, v, v2, SqL.of h', SqL.of h2', hv, hv2⟩, fun z H'' y => ?_⟩
      obtain ⟨T, x', y', rfl, hT, rfl, hx', hy'⟩ := y
      have e := hx' ys (SqL.of h')
      rw [hv] at e
      cases e
      have e := hy' ys2 (SqL.of h2')
      rw [hv2] at e
      cases e
      exact ⟨same_upd hT, RD.tup upd_same (fresh_off ok hT) (.cons ((rv.mono st).mono (Step.same (same_upd hT))) (.cons ((rv2.mono st).mono (Step.same (same_upd hT))) .nil))⟩
  · rw [List.length_map, List.length_zip, r.len, r2.len] at hl
    omega
end
section
variable {X : Cx} {er : ER} {C : CallT} {e e2 : Expr} {x y : Ex} {p pos tpos : Pos} {elts : List Expr} {kk : Nat}
theorem i_enum (hg : Gl X "enumerate") (hm : X.mg "enumerate" = none) (ha : snd X er C e x) (hs : starEach [e] X.env = [(false, eval e X.env)]) : sndI X er C (.Tuple elts kk tpos) (.Call (.Name "enumerate" p) [e] [] pos) (.enum x) :=
  PI.weak (pi_enum hg hm (pa_cons ha pa_nil hs) hs) fun σ H R ⟨E, S, ι, hE, hS, h⟩ => by
    unfold evI at h
    refine useD hE hS h fun d S1 ι1 H1 u st ok he hu q => ?_
    cases d <;> try exact False.elim q
    cases hu with
    | lst hl hn r => exact ⟨_, _, rfl, SqL.of hl, Post.pure q ok _ (src_enum hl hn r)⟩
theorem i_zip (hg : Gl X "zip") (hm : X.mg "zip" = none) (ha : snd X er C e x) (hb : snd X er C e2 y) (hs : starEach [e, e2] X.env = (false, eval e X.env) :: starEach [e2] X.env) (hs2 : starEach [e2] X.env = [(false, eval e2 X.env)])
    (hpl : (backTo pos (starEach [e2] X.env)).any (·.1) = false) : sndI X er C (.Tuple elts kk tpos) (.Call (.Name "zip" p) [e, e2] [] pos) (.zip x y) :=
  PI.weak (pi_zip hg hm (pa_cons ha (pa_cons hb pa_nil hs2) hs) hs hpl) fun σ H R ⟨E, S, ι, hE, hS, h⟩ => by
    unfold evI at h
    refine useD hE hS h fun d S1 ι1 H1 u st ok he hu q => useD he ok q fun d2 S2 ι2 H2 u2 st2 ok2 he2 hu2 q => ?_
    cases d <;> try exact False.elim q
    cases d2 <;> try exact False.elim q
    have hu := hu.mono st2
    cases hu with
    | lst hl hn r =>
      cases hu2 with
      | lst hl2 hn2 r2 => exact ⟨_, _, _, _, rfl, SqL.of hl, SqL.of hl2, Post.pure q ok2 _ (src_zip hl hn r hl2 hn2 r2)⟩
end

/-! ### a dict is locked, and unlocked -/
def isDct : HO → Prop
  | .dK _ => True
  | .dT _ => True
  | _ => False
section
variable {K : PySem.W.Frag} {ι : Adr} {H H' : Hp} {d : Addr} {u0 : HO} {od : Obj}
structure Alike (ι : Adr) (H H' : Hp) : Prop where
  lst : ∀ a ys, Rd H a (.lst ys) → Rd H' a (.lst ys)
  l0 : ∀ a ys, H a = some (.lst ys) → H' a = some (.lst ys)
  t0 : ∀ a ys, H a = some (.tup ys) → H' a = some (.tup ys)
  dK : ∀ a kvs, Rd H a (.dK kvs) → Rd H' a (.dK kvs)
  dT : ∀ a kvs, Rd H a (.dT kvs) → Rd H' a (.dT kvs)
  at_ : ∀ a, ι.av a → H' a = H a
mutual
theorem RD.like (f : Alike ι H H') : ∀ {x v}, RD K ι H x v → RD K ι H' x v
  | _, _, .non => .non
  | _, _, .bl b => .bl b
  | _, _, .int i => .int i
  | _, _, .str x => .str x
  | _, _, .lst h n r => .lst (f.l0 _ _ h) n (RDs.like f r)
  | _, _, .tup h n r => .tup (f.t0 _ _ h) n (RDs.like f r)
  | _, _, .dicK h n e r => .dicK (f.dK _ _ h) n e (RDs.like f r)
  | _, _, .dicT h n e r => .dicT (f.dT _ _ h) n e (RDs.like f r)
theorem RDs.like (f : Alike ι H H') : ∀ {x v}, RDs K ι H x v → RDs K ι H' x v
  | _, _, .nil => .nil
  | _, _, .cons a b => .cons (RD.like f a) (RDs.like f b)
end
theorem Rep.like (f : Alike ι H H') : ∀ {v u}, Rep K ι H v u → Rep K ι H' v u
  | .d _, _, h => RD.like f h
  | .ref _, _, h => h
  | .scr _, _, ⟨a, e, h⟩ => ⟨a, e, h.imp (fun h => ⟨f.lst _ _ h.1, h.2⟩) id⟩
theorem EnvOk.like {E : Env} {σ : L2.St} (f : Alike ι H H') (h : EnvOk K ι H E σ) : EnvOk K ι H' E σ :=
  ⟨h.1, fun i v e => let ⟨u, h1, h2⟩ := h.2 i v e; ⟨u, h1, h2.like f⟩⟩
theorem StOk.like {S : Store} (f : Alike ι H H') (ok : StOk K ι H S) : StOk K ι H' S where
  len := ok.len
  cell := fun n c e => by
    obtain ⟨a, h1, h2⟩ := ok.cell n c e
    refine ⟨a, h1, ?_⟩
    have ea := f.at_ a (.inl (mem_at.mpr ⟨n, h1⟩))
    cases c with
    | lst xs => obtain ⟨ys, e, r⟩ := h2; exact ⟨ys, ea.trans e, r.like f⟩
    | dct xs =>
      rcases h2 with ⟨ks, e, e2, r⟩ | ⟨ks, e, e2, r⟩
      · exact .inl ⟨ks, ea.trans e, e2, r.like f⟩
      · exact .inr ⟨ks, ea.trans e, e2, r.like f⟩
  dead := ok.dead
  inj := ok.inj
  hid := fun a h => by
    obtain ⟨n, o, e, q⟩ := ok.hid a h
    exact ⟨n, o, (f.at_ a (.inr h)).trans e, q⟩
theorem alike_lock (h : H d = some u0) (hu : isDct u0) (n : ¬ ι.av d) : Alike ι H (upd H d (.frz od u0)) where
  lst := fun a ys r => by
    have : a ≠ d := fun e => by
      subst e
      rcases r with r | ⟨o, r⟩ <;> (rw [h] at r; cases r; exact hu)
    rcases r with r | ⟨o, r⟩
    · exact .inl (by rw [upd_ne this]; exact r)
    · exact .inr ⟨o, by rw [upd_ne this]; exact r⟩
  l0 := fun a ys r => by
    have : a ≠ d := fun e => by subst e; rw [h] at r; cases r; exact hu
    rw [upd_ne this]; exact r
  t0 := fun a ys r => by
    have : a ≠ d := fun e => by subst e; rw [h] at r; cases r; exact hu
    rw [upd_ne this]; exact r
  dK := fun a ks r => by
    by_cases e : a = d
    · subst e
      rcases r with r | ⟨o, r⟩
      · rw [h] at r; cases r; exact .inr ⟨od, upd_same⟩
      · rw [h] at r; cases r; exact hu.elim
    · rcases r with r | ⟨o, r⟩
      · exact .inl (by rw [upd_ne e]; exact r)
      · exact .inr ⟨o, by rw [upd_ne e]; exact r⟩
  dT := fun a ks r => by
    by_cases e : a = d
    · subst e
      rcases r with r | ⟨o, r⟩
      · rw [h] at r; cases r; exact .inr ⟨od, upd_same⟩
      · rw [h] at r; cases r; exact hu.elim
    · rcases r with r | ⟨o, r⟩
      · exact .inl (by rw [upd_ne e]; exact r)
      · exact .inr ⟨o, by rw [upd_ne e]; exact r⟩
  at_ := fun a ha => upd_ne fun e => n (e ▸ ha)
theorem alike_unlock (h : H d = some (.frz od u0)) (hu : isDct u0) (n : ¬ ι.av d) : Alike ι H (upd H d u0) where
  lst := fun a ys r => by
    have : a ≠ d := fun e => by
      subst e
      rcases r with r | ⟨o, r⟩
      · rw [h] at r; cases r
      · rw [h] at r; cases r; exact hu
    rcases r with r | ⟨o, r⟩
    · exact .inl (by rw [upd_ne this]; exact r)
    · exact .inr ⟨o, by rw [upd_ne this]; exact r⟩
  l0 := fun a ys r => by
    have : a ≠ d := fun e => by subst e; rw [h] at r; cases r
    rw [upd_ne this]; exact r
  t0 := fun a ys r => by
    have : a ≠ d := fun e => by subst e; rw [h] at r; cases r
    rw [upd_ne this]; exact r
  dK := fun a ks r => by
    by_cases e : a = d
    · subst e
      rcases r with r | ⟨o, r⟩
      · rw [h] at r; cases r
      · rw [h] at r; cases r; exact .inl upd_same
    · rcases r with r | ⟨o, r⟩
      · exact .inl (by rw [upd_ne e]; exact r)
      · exact .inr ⟨o, by rw [upd_ne e]; exact r⟩
  dT := fun a ks r => by
    by_cases e : a = d
    · subst e
      rcases r with r | ⟨o, r⟩
      · rw [h] at r; cases r
      · rw [h] at r; cases r; exact .inl upd_same
    · rcases r with r | ⟨o, r⟩
      · exact .inl (by rw [upd_ne e]; exact r)
      · exact .inr ⟨o, by rw [upd_ne e]; exact r⟩
  at_ := fun a ha => upd_ne fun e => n (e ▸ ha)
/-- what was wanted ahead of the lock, wanted under it -/
theorem Post.lock {er : ER} {α : Type} {G : α → Store → Adr → Hp → Prop} {r : Res α} (h : Post K er ι H G r) (hd : H d = some u0) (hu : isDct u0) (n : ¬ ι.av d) :
    Post K (fun c H' => er c (upd H' d u0)) ι (upd H d (.frz od u0)) (fun a S' ι' H' => H' d = some (.frz od u0) ∧ ¬ ι'.av d ∧ G a S' ι' (upd H' d u0)) r := by
  have n0 : some d ∉ ι.at_ := fun z => n (.inl z)
  have key : ∀ {ι' H''}, Step ι (upd H d (.frz od u0)) ι' H'' → H'' d = some (.frz od u0) ∧ ¬ ι'.av d ∧ Step ι H ι' (upd H'' d u0) := fun {ι' H''} s => by
    have e := s.keep d _ upd_same n0
    have nn : ¬ ι'.av d := s.off (o := .frz od u0) upd_same n
    have dm : ∀ a, upd H d (.frz od u0) a = none → H a = none := fun a z => by
      by_cases q : a = d
      · subst q; rw [upd_same] at z; cases z
      · rw [upd_ne q] at z; exact z
    refine ⟨e, nn, { len := s.len, old := s.old, new := fun m a h e => dm a (s.new m a h e), keep := fun a o h m => ?_, hd := fun a h => (s.hd a h).imp id (dm a), hm := s.hm, dom := fun a z => ?_ }⟩
    · by_cases q : a = d
      · subst q; rw [upd_same, ← hd, h]
      · rw [upd_ne q]; exact s.keep a o (by rw [upd_ne q]; exact h) m
    · by_cases q : a = d
      · subst q; rw [upd_same] at z; cases z
      · rw [upd_ne q] at z; exact dm a (s.dom a z)
  cases r with
  | stuck => exact h
  | exc c S' =>
    intro ι' H'' s k
    obtain ⟨e, nn, s'⟩ := key s
    exact h ι' _ s' (k.like (alike_unlock e hu nn))
  | ok a S' =>
    intro ι' H'' s k
    obtain ⟨e, nn, s'⟩ := key s
    exact ⟨e, nn, h ι' _ s' (k.like (alike_unlock e hu nn))⟩
end
end Lf

set_option Elab.async false
set_option linter.all false
set_option maxRecDepth 100000
set_option maxHeartbeats 4000000
/-! d.items() of tuple keys, walked. -/
namespace Lf
open PySem PySem.Spec PyProof.Rows L2
section
variable {X : Cx} {pins : List (Addr × Obj)} {σ : L2.St} {H : Hp} {s : Shared} {d : Addr} {o : Obj}
theorem frzT2 {kvs : List (List Key × V)} (I : Inv X pins σ H s) (h : H d = some (.frz o (.dT kvs))) :
    (d == sysModules) = false ∧ s.heap.get? d = some o ∧ o.ExactDict ∧ ∃ (es : Array DictEntry) (ep : Nat), o.data = .dict es ep ∧ es.size = kvs.length ∧
      ∀ (i : Nat) (k : List Key) (v : V), kvs[i]? = some (k, v) → ∃ (hi : i < es.size) (q : Addr), es[i].key = .ref q ∧ H q = some (.tup (k.map kV)) ∧ L2.RelV v es[i].val := by
  obtain ⟨hd, z, hs, xs, pr, o', es, ep, ho, hx, hdt, he, _⟩ := I.hok d _ h
  rw [hd] at ho
  cases ho
  refine ⟨hs, hd, hx, es, ep, hdt, ?_, fun i k v e => ?_⟩
  · have l1 : es.size = xs.length := size_of_entries he
    have l2 : kvs.length = xs.length := Paired.length pr
    omega
  · obtain ⟨b, hb, e1, e2, e3⟩ := paired_get pr e
    have q := entry_at he i
    rw [hb] at q
    obtain ⟨hi, q⟩ := Array.getElem?_eq_some_iff.mp q
    refine ⟨hi, b.2.1, ?_, e2, ?_⟩
    · rw [q]; rfl
    · rw [q]; exact e3
/-- the pairs of a locked dict of tuple keys, each a new tuple -/
def Itit (d : Addr) (o : Obj) (kvs : List (List Key × V)) : It :=
  ⟨fun i H => H d = some (.frz o (.dT kvs)) ∧ i < kvs.length, fun i H x H' => ∃ T k v q, kvs[i]? = some (k, v) ∧ x = .ref T ∧ H T = none ∧ H q = some (.tup (k.map kV)) ∧ H' = upd H T (.tup [.ref q, v]),
    fun i H => H d = some (.frz o (.dT kvs)) ∧ kvs.length ≤ i⟩
theorem turn_itemsT {P : Program} {w : World} {K : PySem.W.Frag} {es : Array DictEntry} {ep : Nat} {kvs : List (List Key × V)} {elts : List Expr} {kk : Nat} {tpos : Pos} (it : Addr) (hod : o.data = .dict es ep) :
    Turn P w K (.Tuple elts kk tpos) (Itit d o kvs) [it] it (fun i h => ∃ ok ov, IsItemIter h it d i kvs.length ep ok ov) where
  mem := by simp
  obj := fun i h st b hb => by
    have e : b = it := by simpa using hb
    subst e
    obtain ⟨ok, ov, e⟩ := st
    exact ⟨_, e, fun v z => nomatch z⟩
  keep := fun i h h' st k => let ⟨ok, ov, e⟩ := st; ⟨ok, ov, k it (by simp) _ e⟩
  item := by
    intro X hP hw hK hc i pins s σ H E I hf st hg
    subst hP hw hK
    obtain ⟨hd, hi⟩ := hg
    obtain ⟨hs, hgd, hx, es', ep', hdt, hsz, ent⟩ := frzT2 I hd
    obtain ⟨rfl, rfl⟩ := dict_ep hod hdt
    obtain ⟨⟨k, v⟩, hkv⟩ : ∃ p, kvs[i]? = some p := ⟨kvs[i], List.getElem?_eq_getElem hi⟩
    obtain ⟨hi', q, hq, hqt, ru⟩ := ent i k v hkv
    obtain ⟨ok, ov, he⟩ := st
    rw [← hsz] at he
    have hlt : it < s.heap.objs.size := Heap.lt_size he
    refine DT.nextI he ⟨o, hgd, hx, hdt⟩ hi' fun h' ho hT hz hk => ?_
    refine ⟨_, rfl, wpAny_letOwnedTupleGo_items (s := { s with heap := h' }) ho fun h'' he' sb => ?_⟩
    have hT2 : h''.get? s.heap.objs.size = some { cls := .type "tuple", data := .seq #[es'[i].key, es'[i].val] } := (sb.2 _ (Nat.ne_of_gt hlt)).trans hT
    have new : ObjOk X.prog X.w (upd H s.heap.objs.size (.tup [.ref q, v])) h'' s.heap.objs.size (.tup [.ref q, v]) :=
      ⟨by show 2 ≤ sizeLine; decide, [es'[i].key, es'[i].val], .cons hq (.cons ru .nil), ⟨_, hT2, rfl, _, rfl⟩⟩
    have I1 : Inv X pins σ (upd H s.heap.objs.size (.tup [.ref q, v])) { s with heap := h'' } :=
      I.turnedNew (t' := s.toks) (ch := [it]) (fun b ob hb e => (sb.2 b (by simpa using hb)).trans (hk b ob (by simpa using hb) e)) hf (Nat.le_refl _) new
    refine ⟨.ref s.heap.objs.size, _, I1, rfl, ⟨_, k, v, q, hkv, rfl, I.hok.fresh (Nat.le_refl _), hqt, rfl⟩, ⟨es'[i].key, es'[i].val, ?_⟩, fun b hb => ?_⟩
    · rw [← hsz]; exact he'
    · have e : b = it := by simpa using hb
      rw [e, upd_ne (Nat.ne_of_lt hlt)]
      exact (hf it (by simp)).1
  done := by
    intro X hP hw hK hc i pins s σ H E I hf st hg
    subst hP hw hK
    obtain ⟨hd, hi⟩ := hg
    obtain ⟨f0, f1, f2, f3, f4, f5⟩ := hf it (by simp)
    obtain ⟨hs, hgd, hx, es', ep', hdt, hsz, ent⟩ := frzT2 I hd
    obtain ⟨rfl, rfl⟩ := dict_ep hod hdt
    obtain ⟨ok, ov, he⟩ := st
    rw [← hsz] at he
    exact DT.endI (I.ok.hd hc) he ⟨o, hgd, hx, hdt⟩ (by omega) fun h' eb => ⟨rfl, I.turned (t' := s.toks) (fun b ob hb e => eb b ob hb e) f0 f1 f3 f4 f5⟩
  self := fun A i s Q E st h => let ⟨_, _, e⟩ := st; PySem.W.kcp_self e h
def iItemsT (td : TE) : TI := fun σ H R => td σ H fun x H1 => ∃ d o, x = .ref d ∧ ((∃ kvs, H1 d = some (.frz o (.dK kvs)) ∧ R (Iti d o kvs) H1) ∨ ∃ kvs, H1 d = some (.frz o (.dT kvs)) ∧ R (Itit d o kvs) H1)
theorem pi_itemsT {e : Expr} {td : TE} {apos cpos tpos : Pos} {elts : List Expr} {kk : Nat} (he : PE X e td) (hbase : attributeBase e "items" X.env (eval e X.env) = eval e X.env := by rfl) (hline : (apos.endLine == cpos.line) = true := by rfl) :
    PI X (.Tuple elts kk tpos) (.Call (.Attribute e "items" apos) [] [] cpos) (iItemsT td) := by
  refine ⟨fun pins s σ H R I h => ?_⟩
  refine wpAny_Call_method (T := "dict") (id := "dict.items") hbase rfl hline F.plainAttrs_dict F.slot_dict_items F.type_dict_items (thn (he.run pins s σ H _ I h) fun u s1 ⟨x, H1, I1, rx, d, o, ex, q⟩ => ?_)
  subst ex
  obtain rfl : u = Value.ref d := rx
  rcases q with ⟨kvs, hd, q⟩ | ⟨kvs, hd, q⟩
  · obtain ⟨hs, hgd, hx, es, ep, vs, hdt, hsz, kv, hm⟩ := I1.frzK hd
    have hl : kvs.length = vs.length := Paired.length kv
    refine ⟨hm.dictOf.typeIs, hm.dictOf.mapOf.noDict, ?_⟩
    have I2 : Inv X pins σ H1 { s1 with heap := s1.heap.push { cls := .type "dict_items", data := .fields #[.ref d] } } := I1.kept (t' := s1.toks) fun b ob q => Heap.get?_push_of_some _ q
    have fin : wpAny (model X.prog X.w) X.A (pyIter (.ref s1.heap.objs.size)) (PIE X pins σ (.Tuple elts kk tpos) R) X.xe { s1 with heap := s1.heap.push { cls := .type "dict_items", data := .fields #[.ref d] } } := by
      refine wpAny_pyIter_items (d := d) (knd := mixKind X.prog X.w) ⟨_, Heap.get?_push_size _ rfl, rfl, rfl⟩ (hm.push _) (pi_one (tk := s1.toks) I2 _ (turn_items _ hdt) ⟨.none, .none, ?_⟩ q)
      rw [hl]
      exact Heap.get?_push_size _ rfl
    show wpAny _ _ (callWith cpos (.builtin "dict.items") [.ref d] [] []) _ X.xe s1
    exact method_meetsIn F.slot_dict_items F.entry_dict_items rfl (PySem.evalArgs_none ⟨rfl, hm.dictOf.typeIs, F.args_dict_items_1 _, _, meets_dict_items (mixKind X.prog X.w) d hs, ⟨vs, hm.dictOf⟩, fin⟩)
  · obtain ⟨hs, hgd, hx, es, ep, hdt, hsz, ent⟩ := frzT2 I1 hd
    have raw : DT.Raw s1.heap d es ep := ⟨o, hgd, hx, hdt⟩
    refine ⟨raw.typeIs, fun b q => ?_, ?_⟩
    · cases q; exact ⟨o, hgd, hx.2.1⟩
    have I2 : Inv X pins σ H1 { s1 with heap := s1.heap.push { cls := .type "dict_items", data := .fields #[.ref d] } } := I1.kept (t' := s1.toks) fun b ob q => Heap.get?_push_of_some _ q
    have fin : wpAny (model X.prog X.w) X.A (pyIter (.ref s1.heap.objs.size)) (PIE X pins σ (.Tuple elts kk tpos) R) X.xe { s1 with heap := s1.heap.push { cls := .type "dict_items", data := .fields #[.ref d] } } := by
      refine DT.iterI (d := d) (es := es) (ep := ep) ⟨_, Heap.get?_push_size _ rfl, rfl, rfl⟩ (raw.push _) (pi_one (tk := s1.toks) I2 _ (turn_itemsT _ hdt) ⟨.none, .none, ?_⟩ q)
      rw [← hsz]
      exact Heap.get?_push_size _ rfl
    show wpAny _ _ (callWith cpos (.builtin "dict.items") [.ref d] [] []) _ X.xe s1
    exact method_meetsIn F.slot_dict_items F.entry_dict_items rfl (PySem.evalArgs_none ⟨rfl, raw.typeIs, F.args_dict_items_1 _, _, DT.meetsItems (es := es) (ep := ep) hs, ⟨raw, fin⟩⟩)
end
end Lf

set_option Elab.async false
set_option linter.all false
set_option maxRecDepth 100000
set_option maxHeartbeats 4000000
/-! Loops and comprehensions over dicts. -/
namespace Lf
open PySem PySem.Spec PyProof.Rows L2
section
variable {er : ER} {C : CallT} {t : Tg} {b : Sms}
theorem for_core {K : PySem.W.Frag} {D : Ends} {E : Env} {σ : L2.St} {S1 : Store} {ι1 : Adr} {H H1 : Hp} {J : It} {items : List PyData} (src : Src K J ι1 H1 items) (hE1 : EnvOk K ι1 H1 E σ) (ok1 : StOk K ι1 H1 S1)
    (q : Post K er ι1 H1 (FlOk K H1 D) (loopL (fun x E => bindT t x E) (fun E => execs C b E) items E S1)) : tFor (fun _ _ R => R J H1) (tG K t) (tS K er (execs C b)) D σ H := by
  let W : Nat → Nat → L2.St → Hp → Prop := fun i m σ Hc => m = items.length - i ∧ i ≤ items.length ∧ ∃ E' S' ι', Step ι1 H1 ι' Hc ∧ EnvOk K ι' Hc E' σ ∧ StOk K ι' Hc S' ∧
    Post K er ι' Hc (FlOk K H1 D) (loopL (fun x E => bindT t x E) (fun E => execs C b E) (items.drop i) E' S')
  refine ⟨W, ⟨_, rfl, Nat.zero_le _, E, S1, ι1, Step.refl _ _, hE1, ok1, q⟩, ?_⟩
  rintro i m σ1 Hc ⟨rfl, hi, E', S', ι', s', he', ok', pp⟩
  have src' := src ι' Hc S' s' ok' i
  by_cases hlt : i < items.length
  · have hit : items[i]? = some items[i] := List.getElem?_eq_getElem hlt
    obtain ⟨go, yl⟩ := src'.1 _ hit
    refine .inr ⟨go, W (i + 1) (items.length - (i + 1)), fun σ' H' w => ⟨_, by omega, w⟩, fun x H'' y => ?_⟩
    obtain ⟨sm, rx⟩ := yl x H'' y
    rw [List.drop_eq_getElem_cons hlt] at pp
    unfold loopL at pp
    have pp := pp.same sm
    have ok2 := ok'.same sm
    have s2 : Step ι1 H1 ι' H'' := s'.trans (Step.same sm)
    obtain ⟨E1, e1, pp⟩ := (Post.bind pp).lift ok2
    refine ⟨E', _, S', ι', E1, he'.mono (Step.same sm), rx, ok2, e1, fun σ2 hE1 _ => ⟨E1, S', ι', hE1, ok2, pp.bind.imp fun r S2 ι2 H2 st2 ok3 q => ?_⟩⟩
    have dm : ∀ a, H'' a = none → H1 a = none := s2.dom
    unfold FlOk
    cases qr : r.1 with
    | nx => rw [qr] at q; exact fun σ' he => ⟨rfl, hlt, r.2, S2, ι2, s2.trans st2, he, ok3, q⟩
    | ct => rw [qr] at q; exact fun σ' he => ⟨rfl, hlt, r.2, S2, ι2, s2.trans st2, he, ok3, q⟩
    | bk => rw [qr] at q; exact fun σ' he => Post.pure q ok3 σ' he
    | rt o => rw [qr] at q; exact fun u hu => Post.pure q ok3 u (hu.back dm)
  · have e : i = items.length := by omega
    subst e
    refine .inl ⟨src'.2 (Nat.le_refl _), ?_⟩
    rw [List.drop_length] at pp
    exact Post.pure pp ok' σ1 he'

variable {c e : Ex}
theorem comp_core {K : PySem.W.Frag} {E : Env} {σ : L2.St} {S1 : Store} {ι1 : Adr} {H H1 : Hp} {Q : VK} {J : It} {items : List PyData} {ow : List Nat} (src : Src K J ι1 H1 items) (hE1 : EnvOk K ι1 H1 E σ) (ok1 : StOk K ι1 H1 S1) (dm : ∀ a, H1 a = none → H a = none)
    (q : Post K er ι1 H1 (fun o S' ι' H' => ∀ u, OutOk K H ι' H' S' o u → Q u H') ((if wipes ow t then M.bind (noExc (comprL (fun x => bindT t x (wipeE E ow)) (fun E => evT C c E) (fun E => datum (ev C e E)) items [])) fun ys => M.pure (.lst ys) else fun _ => .stuck) S1)) :
    tLc (fun _ _ R => R J H1) (tG K t) (tB K er0 (evT C c)) (tE K er0 (ev C e)) ow σ H Q := by
  intro D hD
  obtain ⟨hw, q⟩ := Post.ite q
  have q0 := noExc_post q
  clear q
  have sD : Same H1 (upd H1 D (.lst [])) := same_upd hD
  have okD : StOk K (ι1.hide D) (upd H1 D (.lst [])) S1 := ok1.hide hD (fun _ => nofun)
  have nD : ¬ ι1.av D := fresh_off ok1 hD
  -- where one stands between the turns
  let Fin : List PyData → Store → Adr → Hp → Prop := fun ys _ ι'' Hx => ∀ acc, RDs K ι'' Hx ys acc → Q (.ref D) (upd Hx D (.lst acc))
  have finInv : ∀ (a : List PyData) (S' : Store) (ι' : Adr) (Hx : Hp) (o' : HO), ι'.hid D → Fin a S' ι' Hx → Fin a S' ι' (upd Hx D o') := fun a S' ι' Hx o' hd g acc r => by
    rw [upd_upd]
    refine g acc (r.map fun b o hb n => ?_)
    have : b ≠ D := fun e => n (.inr (by rw [e]; exact hd))
    rw [upd_ne this] at hb
    exact ⟨hb, n⟩
  have start : Post K er0 (ι1.hide D) (upd H1 D (.lst [])) Fin (comprL (fun x => bindT t x (wipeE E ow)) (fun E => evT C c E) (fun E => datum (ev C e E)) items [] S1) := by
    have back : ∀ {ι'' H''}, Step (ι1.hide D) (upd H1 D (.lst [])) ι'' H'' → Step ι1 H1 ι'' H'' := fun s =>
      ({ len := Nat.le_refl _, old := fun _ _ _ h => h, new := fun n a h e => absurd (List.getElem?_eq_some_iff.mp e).1 (Nat.not_lt.mpr h), keep := fun a o h _ => sD a o h,
         hd := fun a h => h.elim .inl fun z => .inr (by rw [z]; exact hD), hm := fun a h => .inl h, dom := fun a h => sD.free h } : Step ι1 H1 (ι1.hide D) (upd H1 D (.lst []))).trans s
    cases qr : comprL (fun x => bindT t x (wipeE E ow)) (fun E => evT C c E) (fun E => datum (ev C e E)) items [] S1 with
    | stuck => rw [qr] at q0; exact q0
    | exc cc S' => rw [qr] at q0; exact fun ι'' H'' s k => q0 ι'' H'' (back s) (k.conv rfl (fun a o h n => ⟨h, n⟩) (fun _ _ => rfl) fun a h => k.hid a h)
    | ok ys S'' =>
      rw [qr] at q0
      intro ι'' H'' s k acc ra
      have s1 := back s
      have hdD : ι''.hid D := s.hm D (.inr rfl)
      have nhD : some D ∉ ι''.at_ := (k.hid D hdD).1
      let ι2 : Adr := ⟨ι''.at_, ι1.hid⟩
      have sub : ∀ a, (ι2.hide D).av a → ι''.av a := fun a z => z.elim .inl fun z => .inr (z.elim (fun z => s.hm a (.inl z)) fun z => by rw [z]; exact hdD)
      have f : ∀ a o, H'' a = some o → ¬ ι''.av a → upd H'' D (.lst acc) a = some o ∧ ¬ (ι2.hide D).av a := fun a o h n =>
        ⟨by rw [upd_ne (fun e : a = D => n (.inr (by rw [e]; exact hdD)))]; exact h, fun z => n (sub a z)⟩
      have ok2 : StOk K (ι2.hide D) (upd H'' D (.lst acc)) S'' := k.conv rfl f (fun a h => upd_ne fun e => nhD (by rw [← e]; exact h)) fun a h => by
        rcases h with h | h
        · obtain ⟨n, o, e, z⟩ := k.hid a (s.hm a (.inl h))
          refine ⟨n, o, ?_, z⟩
          rw [upd_ne fun e => nD (.inr (by rw [← e]; exact h))]; exact e
        · subst h
          exact ⟨nhD, _, upd_same, fun _ => nofun⟩
      have ok3 : StOk K ι2 (upd H'' D (.lst acc)) S'' := ok2.conv rfl (fun a o h n => ⟨h, fun z => n (z.imp id .inl)⟩) (fun _ _ => rfl) fun a h => ok2.hid a (.inl h)
      have nD2 : ¬ ι2.av D := fun z => z.elim nhD fun z => nD (.inr z)
      have st2 : Step ι1 H1 ι2 (upd H'' D (.lst acc)) :=
        { len := s1.len, old := s1.old, new := s1.new
          keep := fun a o h n => by
            rw [upd_ne (ne_of_none h hD)]
            exact s1.keep a o h n
          hd := fun a h => .inl h
          hm := fun a h => h
          dom := fun a e => by
            by_cases z : a = D
            · rw [z]; exact hD
            · rw [upd_ne z] at e; exact s1.dom a e }
      have g := q0 ι2 _ st2 ok3
      have g := Post.pure g ok3
      refine g (.ref D) ⟨D, rfl, dm D hD, nD2, StOk.unhide ok2 ⟨acc, upd_same, ra.map f⟩ fun z => nD (.inr z)⟩
  clear q0
  let W : Nat → Nat → Hp → Prop := fun i m Hc => m = items.length - i ∧ i ≤ items.length ∧ ∃ S' ι' ds acc, Step ι1 H1 ι' Hc ∧ StOk K ι' Hc S' ∧ ι'.hid D ∧ Hc D = some (.lst acc) ∧ RDs K ι' Hc ds acc ∧
    Post K er0 ι' Hc Fin (comprL (fun x => bindT t x (wipeE E ow)) (fun E => evT C c E) (fun E => datum (ev C e E)) (items.drop i) ds S')
  have st0 : Step ι1 H1 (ι1.hide D) (upd H1 D (.lst [])) :=
    { len := Nat.le_refl _, old := fun _ _ _ h => h, new := fun n a h e => absurd (List.getElem?_eq_some_iff.mp e).1 (Nat.not_lt.mpr h), keep := fun a o h _ => sD a o h,
      hd := fun a h => h.elim .inl fun z => .inr (by rw [z]; exact hD), hm := fun a h => .inl h, dom := fun a h => sD.free h }
  refine ⟨W, ⟨items.length, by omega, Nat.zero_le _, S1, ι1.hide D, [], [], st0, okD, .inr rfl, upd_same, .nil, start⟩, ?_⟩
  rintro i m Hc ⟨rfl, hi, S', ι', ds, acc, s', ok', hd', hDc, ra, pp⟩
  have src' := src ι' Hc S' s' ok' i
  by_cases hlt : i < items.length
  · have hit : items[i]? = some items[i] := List.getElem?_eq_getElem hlt
    obtain ⟨go, yl⟩ := src'.1 _ hit
    refine .inr ⟨go, W (i + 1) (items.length - (i + 1)), fun H' w => ⟨_, by omega, w⟩, fun x H'' y => ?_⟩
    obtain ⟨sm, rx⟩ := yl x H'' y
    rw [List.drop_eq_getElem_cons hlt] at pp
    unfold comprL at pp
    have pp := pp.same sm
    have ok2 := ok'.same sm
    have s2 : Step ι1 H1 ι' H'' := s'.trans (Step.same sm)
    obtain ⟨E1, e1, pp⟩ := (Post.bind pp).lift ok2
    refine ⟨wipeE E ow, _, S', ι', E1, (hE1.mono s2).wipe ow, rx, ok2, e1, fun σ2 hE1 hwp => ⟨wipe_idem σ ow σ2 (hwp ow hw), ?_⟩⟩
    refine useB hE1 ok2 pp fun b S3 ι3 H3 st3 ok3 he3 pp => ?_
    have hD3 : H3 D = some (.lst acc) := st3.keep D _ (sm _ _ hDc) (ok2.hid D hd').1
    have hd3 : ι3.hid D := st3.hm D hd'
    cases b with
    | false =>
      refine iteF ⟨rfl, hlt, S3, ι3, ds, acc, s2.trans st3, ok3, hd3, hD3, (ra.mono (Step.same sm)).mono st3, pp⟩
    | true =>
      refine iteT (useD he3 ok3 pp fun y S4 ι4 H4 u st4 ok4 he4 hu4 pp => ?_)
      obtain ⟨hl, pp⟩ := Post.ite pp
      have hD4 : H4 D = some (.lst acc) := st4.keep D _ hD3 (ok3.hid D hd3).1
      have hd4 : ι4.hid D := st4.hm D hd3
      have ra4 : RDs K ι4 H4 ds acc := ((ra.mono (Step.same sm)).mono st3).mono st4
      have s4 : Step ι1 H1 ι4 H4 := (s2.trans st3).trans st4
      refine ⟨acc, hD4, by rw [← ra4.len]; exact Nat.lt_of_lt_of_le hl lim_line, rfl, hlt, S4, ι4, ds ++ [y], acc ++ [u], ?_, ok4.rehid hd4 (fun _ => nofun), hd4, upd_same, ?_, ?_⟩
      · exact { len := s4.len, old := s4.old, new := s4.new, hd := s4.hd, hm := s4.hm
                keep := fun a o h n => by rw [upd_ne (ne_of_none h hD)]; exact s4.keep a o h n
                dom := fun a e => by
                  by_cases z : a = D
                  · rw [z]; exact hD
                  · rw [upd_ne z] at e; exact s4.dom a e }
      · exact (ra4.append (.cons hu4 .nil)).map (hid_map hd4)
      · exact pp.rehid hd4 hD4 (ok4.hid D hd4).1 (fun _ => nofun) finInv
  · have e : i = items.length := by omega
    subst e
    refine .inl ⟨src'.2 (Nat.le_refl _), ?_⟩
    rw [List.drop_length] at pp
    have g := Post.pure pp ok' acc ra
    rw [upd_id hDc] at g
    exact g
end
end Lf

set_option Elab.async false
set_option linter.all false
set_option maxRecDepth 100000
set_option maxHeartbeats 4000000
/-! Loops and comprehensions over dicts: read. -/
namespace Lf
open PySem PySem.Spec PyProof.Rows L2
section
variable {K : PySem.W.Frag} {ι : Adr} {H : Hp} {S : Store} {E : Env} {σ : L2.St} {C : CallT} {er : ER} {d : Addr} {o : Obj} {ds : List (PyData × PyData)} {i : Nat}
def Lkd (K : PySem.W.Frag) (ι : Adr) (H : Hp) (d : Addr) (o : Obj) (ds : List (PyData × PyData)) : Prop :=
  (∃ kvs, H d = some (.frz o (.dK kvs)) ∧ DR keyD K ι H ds kvs) ∨ ∃ kvs, H d = some (.frz o (.dT kvs)) ∧ DR fT K ι H ds kvs
def Unl (K : PySem.W.Frag) (ι : Adr) (H : Hp) (d : Addr) (u0 : HO) (ds : List (PyData × PyData)) : Prop :=
  H d = some u0 ∧ isDct u0 ∧ Mut (some u0) ∧ ∀ od, Lkd K ι (upd H d (.frz od u0)) d od ds
theorem dict_at_var (hE : EnvOk K ι H E σ) (h : E[i]? = some (some (.d (.dict ds)))) : ∃ d, σ[i]? = some (some (.ref d)) ∧ ¬ ι.av d ∧ ((∃ u0, Unl K ι H d u0 ds) ∨ ∃ o, Lkd K ι H d o ds) := by
  obtain ⟨u, hu, r⟩ := hE.2 i _ h
  have r : RD K ι H (.dict ds) u := r
  cases r with
  | @dicK a kvs _ h n e rs =>
    refine ⟨a, hu, n, ?_⟩
    rcases h with h | ⟨o, h⟩
    · exact .inl ⟨_, h, trivial, trivial, fun od => .inl ⟨kvs, upd_same, .of e.2 (rs.like (alike_lock h trivial n))⟩⟩
    · exact .inr ⟨o, .inl ⟨kvs, h, .of e.2 rs⟩⟩
  | @dicT a kvs _ h n e rs =>
    refine ⟨a, hu, n, ?_⟩
    rcases h with h | ⟨o, h⟩
    · exact .inl ⟨_, h, trivial, trivial, fun od => .inr ⟨kvs, upd_same, .of e (rs.like (alike_lock h trivial n))⟩⟩
    · exact .inr ⟨o, .inr ⟨kvs, h, .of e rs⟩⟩
theorem DR.get {κ : Type} {f : κ → PyData} {kvs : List (κ × V)} (h : DR f K ι H ds kvs) : ∀ {j : Nat} {p : PyData × PyData}, ds[j]? = some p → ∃ k v, kvs[j]? = some (k, v) ∧ p.1 = f k ∧ RD K ι H p.2 v := by
  induction h with
  | nil => intro j p e; simp at e
  | @cons k d v ds kvs r t ih =>
    intro j p e
    cases j with
    | zero => simp at e; subst e; exact ⟨k, v, rfl, rfl, r⟩
    | succ j => exact ih (j := j) (by simpa using e)
theorem keysRD' : ∀ ks : List Key, RDs K ι H (ks.map keyD) (ks.map kV)
  | [] => .nil
  | .inl i :: ks => .cons (.int i) (keysRD' ks)
  | .inr i :: ks => .cons (.str i) (keysRD' ks)
theorem keyRD (k : Key) : RD K ι H (keyD k) (kV k) := by
  cases k with
  | inl i => exact .int i
  | inr x => exact .str x
theorem keys_go {R : It → Hp → Prop} (hσ : σ[i]? = some (some (.ref d))) (L : Lkd K ι H d o ds) (n : ¬ ι.av d) (k : ∀ J, Src K J ι H (ds.map (·.1)) → R J H) : iKeys (tVar i) σ H R := by
  refine ⟨.ref d, hσ, d, o, rfl, ?_⟩
  rcases L with ⟨kvs, hd, dr⟩ | ⟨kvs, hd, dr⟩
  · refine .inl ⟨kvs, hd, k _ fun ι' H' S' st ok j => ?_⟩
    have h' := st.keep d _ hd fun z => n (.inl z)
    refine ⟨fun it hi => ?_, fun hl => ⟨h', by rw [List.length_map, dr.len] at hl; exact hl⟩⟩
    rw [List.getElem?_map] at hi
    cases q : ds[j]? with
    | none => rw [q] at hi; cases hi
    | some p =>
      rw [q] at hi
      cases hi
      obtain ⟨kk, v, e1, e2, e3⟩ := dr.get q
      refine ⟨⟨h', (List.getElem?_eq_some_iff.mp e1).1⟩, fun x H'' y => ?_⟩
      obtain ⟨rfl, k', v', e4, rfl⟩ := y
      rw [e1] at e4
      cases e4
      exact ⟨Same.refl _, by show RD K ι' _ p.1 _; rw [e2]; exact keyRD _⟩
  · refine .inr ⟨kvs, hd, k _ fun ι' H' S' st ok j => ?_⟩
    have h' := st.keep d _ hd fun z => n (.inl z)
    refine ⟨fun it hi => ?_, fun hl => ⟨h', by rw [List.length_map, dr.len] at hl; exact hl⟩⟩
    rw [List.getElem?_map] at hi
    cases q : ds[j]? with
    | none => rw [q] at hi; cases hi
    | some p =>
      rw [q] at hi
      cases hi
      obtain ⟨kk, v, e1, e2, e3⟩ := dr.get q
      refine ⟨⟨h', (List.getElem?_eq_some_iff.mp e1).1⟩, fun x H'' y => ?_⟩
      obtain ⟨rfl, k', v', a, e4, rfl, ha⟩ := y
      rw [e1] at e4
      cases e4
      exact ⟨Same.refl _, by show RD K ι' _ p.1 _; rw [e2]; exact RD.tup ha (ok.notup a _ ha) (keysRD' _)⟩
theorem items_go {R : It → Hp → Prop} (hσ : σ[i]? = some (some (.ref d))) (L : Lkd K ι H d o ds) (n : ¬ ι.av d) (k : ∀ J, Src K J ι H (ds.map fun p => .tuple [p.1, p.2]) → R J H) : iItemsT (tVar i) σ H R := by
  refine ⟨.ref d, hσ, d, o, rfl, ?_⟩
  rcases L with ⟨kvs, hd, dr⟩ | ⟨kvs, hd, dr⟩
  · refine .inl ⟨kvs, hd, k _ fun ι' H' S' st ok j => ?_⟩
    have h' := st.keep d _ hd fun z => n (.inl z)
    refine ⟨fun it hi => ?_, fun hl => ⟨h', by rw [List.length_map, dr.len] at hl; exact hl⟩⟩
    rw [List.getElem?_map] at hi
    cases q : ds[j]? with
    | none => rw [q] at hi; cases hi
    | some p =>
      rw [q] at hi
      cases hi
      obtain ⟨kk, v, e1, e2, e3⟩ := dr.get q
      refine ⟨⟨h', (List.getElem?_eq_some_iff.mp e1).1⟩, fun x H'' y => ?_⟩
      obtain ⟨T, k', v', e4, rfl, hT, rfl⟩ := y
      rw [e1] at e4
      cases e4
      exact ⟨same_upd hT, RD.tup upd_same (fresh_off ok hT) (.cons (by rw [e2]; exact keyRD _) (.cons ((e3.mono st).mono (Step.same (same_upd hT))) .nil))⟩
  · refine .inr ⟨kvs, hd, k _ fun ι' H' S' st ok j => ?_⟩
    have h' := st.keep d _ hd fun z => n (.inl z)
    refine ⟨fun it hi => ?_, fun hl => ⟨h', by rw [List.length_map, dr.len] at hl; exact hl⟩⟩
    rw [List.getElem?_map] at hi
    cases q : ds[j]? with
    | none => rw [q] at hi; cases hi
    | some p =>
      rw [q] at hi
      cases hi
      obtain ⟨kk, v, e1, e2, e3⟩ := dr.get q
      refine ⟨⟨h', (List.getElem?_eq_some_iff.mp e1).1⟩, fun x H'' y => ?_⟩
      obtain ⟨T, k', v', a, e4, rfl, hT, ha, rfl⟩ := y
      rw [e1] at e4
      cases e4
      have sm := same_upd (o := .tup [.ref a, v]) hT
      exact ⟨sm, RD.tup upd_same (fresh_off ok hT) (.cons (by rw [e2]; exact RD.tup (sm _ _ ha) (ok.notup a _ ha) (keysRD' _)) (.cons ((e3.mono st).mono (Step.same sm)) .nil))⟩
end

/-! ### under a lock -/
section
variable {K : PySem.W.Frag} {ι : Adr} {H : Hp} {d : Addr} {u0 : HO} {od : Obj}
theorem out_unlock {H0 : Hp} {S : Store} {ι' : Adr} {H' : Hp} (h0 : H0 d = some u0) (hd : H' d = some (.frz od u0)) (hu : isDct u0) (n : ¬ ι'.av d) : ∀ {o u}, OutOk K (upd H0 d (.frz od u0)) ι' H' S o u → OutOk K H0 ι' (upd H' d u0) S o u := by
  have nd : ∀ p, upd H0 d (.frz od u0) p = none → H0 p = none ∧ p ≠ d := fun p hp => by
    by_cases q : p = d
    · subst q; rw [upd_same] at hp; cases hp
    · rw [upd_ne q] at hp; exact ⟨hp, q⟩
  have av : ∀ p, p ≠ d → ¬ (ι'.push p).av d := fun p hp z => by
    rcases z with z | z
    · rcases List.mem_append.mp z with z | z
      · exact n (.inl z)
      · simp at z; exact hp z.symm
    · exact n (.inr z)
  intro o u h
  cases o with
  | val v => exact Rep.like (alike_unlock hd hu n) h
  | lst xs => obtain ⟨p, e, h1, h2, h3⟩ := h; exact ⟨p, e, (nd p h1).1, h2, h3.like (alike_unlock hd hu (av p (nd p h1).2))⟩
  | dct xs => obtain ⟨p, e, h1, h2, h3⟩ := h; exact ⟨p, e, (nd p h1).1, h2, h3.like (alike_unlock hd hu (av p (nd p h1).2))⟩
end
section
variable {X : Cx} {er : ER} {C : CallT} {tg : Expr} {body : List Stmt} {t : Tg} {b : Sms} {i : Nat} {n : Str} {p pos apos cpos : Pos}
/-- a loop over a dict, by a rule that walks it where it is locked -/
theorem loop_dict {pins : List (Addr × Obj)} {s : Shared} {σ : L2.St} {H : Hp} {D : Ends} {st : Stmt} {wi : TI} {f : PyData × PyData → PyData} (I : Inv X pins σ H s)
    (rule : ∀ er', PS X st (tFor wi (tG X.K t) (tS X.K er' (execs C b)))) (go : ∀ {ι : Adr} {H : Hp} {S : Store} {d : Addr} {o : Obj} {ds : List (PyData × PyData)} {R : It → Hp → Prop}, σ[i]? = some (some (.ref d)) → Lkd X.K ι H d o ds → ¬ ι.av d → (∀ J, Src X.K J ι H (ds.map f) → R J H) → wi σ H R)
    {E : Env} {S : Store} {ι : Adr} {ds : List (PyData × PyData)} (hE : EnvOk X.K ι H E σ) (hS : StOk X.K ι H S) (he : E[i]? = some (some (.d (.dict ds)))) (h : Post X.K er ι H (FlOk X.K H D) (loopL (fun x E => bindT t x E) (fun E => execs C b E) (ds.map f) E S)) :
    wpAny (model X.prog X.w) X.A (PySem.exec st X.env) (SP X pins D) X.xe s := by
  obtain ⟨d, hσ, nd, ⟨u0, hd, hu, mu, lk⟩ | ⟨o, lk⟩⟩ := dict_at_var hE he
  · refine (ps_lock (rule fun c H' => er c (upd H' d u0))).run pins s σ H D I ⟨d, u0, hd, mu, fun od => ?_⟩
    refine go (S := S) hσ (lk od) nd fun J src => ?_
    have q := h.lock (od := od) hd hu nd
    refine for_core (H := H) src (hE.like (alike_lock hd hu nd)) (hS.like (alike_lock hd hu nd)) (q.imp fun r S' ι' H' _ ok ⟨h1, h2, h3⟩ => ?_)
    have un : Alike ι' H' (upd H' d u0) := alike_unlock h1 hu h2
    unfold FlOk at h3 ⊢
    cases qr : r.1 with
    | nx => rw [qr] at h3; exact fun σ' he' => ⟨h1, h3 σ' (he'.like un)⟩
    | bk => rw [qr] at h3; exact fun σ' he' => ⟨h1, h3 σ' (he'.like un)⟩
    | ct => rw [qr] at h3; exact fun σ' he' => ⟨h1, h3 σ' (he'.like un)⟩
    | rt o => rw [qr] at h3; exact fun u hu' => ⟨h1, h3 u (out_unlock hd h1 hu h2 hu')⟩
  · exact (rule er).run pins s σ H D I (go (S := S) hσ lk nd fun J src => for_core (H := H) src hE hS h)
theorem env_dict {E : Env} {α : Type} {S : Store} {f : List (PyData × PyData) → M α} {K : PySem.W.Frag} {ι : Adr} {H : Hp} {β : Type} {g : α → M β} {G : β → Store → Adr → Hp → Prop}
    (h : Post K er ι H G (M.bind (match (E[i]?).bind id with
      | some (.d (.dict kvs)) => f kvs
      | _ => fun _ => .stuck) g S)) : ∃ ds, E[i]? = some (some (.d (.dict ds))) ∧ Post K er ι H G (M.bind (f ds) g S) := by
  split at h
  · rename_i ds e
    refine ⟨ds, ?_, h⟩
    cases q : E[i]? with
    | none => rw [q] at e; cases e
    | some oo => rw [q] at e; simp at e; rw [e]
  · exact h.elim
theorem s_loopK (hp : PassesOwn (model X.prog X.w) X.A X.env X.xe) (hu : Sur X) (hN : X.N[i]? = some n) (hv : Vis X.env.scope n) (h1 : (n == ("__debug__" : Str)) = false) (h2 : (n == ("__classdict__" : Str)) = false) (hg : sndG X tg t) (hb : ∀ er, sndSs X er C body b)
    (hs : ∀ x, foldedSetIterable (.Name n p) X.env x = pure x) : sndS X er C (.For tg (.Name n p) body [] pos) (.loop t (.keys i) b) :=
  ⟨fun pins s σ H D I ⟨E, S, ι, hE, hS, h⟩ => by
    unfold exec evI at h
    obtain ⟨ds, he, h⟩ := env_dict h
    exact loop_dict (f := fun p => p.1) I (fun er' => ps_for hp hu.calm (pi_keys (pe_var hN hv h1 h2)) hg (hb er') hs) (fun a b c d => keys_go a b c d) hE hS he h⟩
theorem s_loopI {elts : List Expr} {kk : Nat} {tpos : Pos} (hp : PassesOwn (model X.prog X.w) X.A X.env X.xe) (hu : Sur X) (hN : X.N[i]? = some n) (hv : Vis X.env.scope n) (h1 : (n == ("__debug__" : Str)) = false) (h2 : (n == ("__classdict__" : Str)) = false) (hg : sndG X (.Tuple elts kk tpos) t) (hb : ∀ er, sndSs X er C body b)
    (hbase : attributeBase (.Name n p) "items" X.env (eval (.Name n p) X.env) = eval (.Name n p) X.env) (hline : (apos.endLine == cpos.line) = true)
    (hs : ∀ x, foldedSetIterable (.Call (.Attribute (.Name n p) "items" apos) [] [] cpos) X.env x = pure x) : sndS X er C (.For (.Tuple elts kk tpos) (.Call (.Attribute (.Name n p) "items" apos) [] [] cpos) body [] pos) (.loop t (.items i) b) :=
  ⟨fun pins s σ H D I ⟨E, S, ι, hE, hS, h⟩ => by
    unfold exec evI at h
    obtain ⟨ds, he, h⟩ := env_dict h
    exact loop_dict (f := fun p => .tuple [p.1, p.2]) I (fun er' => ps_for hp hu.calm (pi_itemsT (pe_var hN hv h1 h2) hbase hline) hg (hb er') hs) (fun a b c d => items_go a b c d) hE hS he h⟩
/-! ### comprehensions -/
variable {elt iter : Expr} {ifs : List Expr} {scope : Scope} {own : List (Str × Nat)} {c e : Ex} {it : Ir}
theorem comp_dict {pins : List (Addr × Obj)} {s : Shared} {σ : L2.St} {H : Hp} {Q : VK} {ex : Expr} {wi : TI} {f : PyData × PyData → PyData} {ow : List Nat} (I : Inv X pins σ H s)
    (rule : PE X ex (tLc wi (tG X.K t) (tB X.K er0 (evT C c)) (tE X.K er0 (ev C e)) ow)) (go : ∀ {ι : Adr} {H : Hp} {S : Store} {d : Addr} {o : Obj} {ds : List (PyData × PyData)} {R : It → Hp → Prop}, σ[i]? = some (some (.ref d)) → Lkd X.K ι H d o ds → ¬ ι.av d → (∀ J, Src X.K J ι H (ds.map f) → R J H) → wi σ H R)
    {E : Env} {S : Store} {ι : Adr} {ds : List (PyData × PyData)} (hE : EnvOk X.K ι H E σ) (hS : StOk X.K ι H S) (he : E[i]? = some (some (.d (.dict ds))))
    (h : Post X.K er ι H (fun o S' ι' H' => ∀ u, OutOk X.K H ι' H' S' o u → Q u H') ((if wipes ow t then M.bind (noExc (comprL (fun x => bindT t x (wipeE E ow)) (fun E => evT C c E) (fun E => datum (ev C e E)) (ds.map f) [])) fun ys => M.pure (.lst ys) else fun _ => .stuck) S)) :
    wpAny (model X.prog X.w) X.A (eval ex X.env) (EP X pins σ Q) X.xe s := by
  obtain ⟨d, hσ, nd, ⟨u0, hd, hu, mu, lk⟩ | ⟨o, lk⟩⟩ := dict_at_var hE he
  · refine (pe_lock rule).run pins s σ H Q I ⟨d, u0, hd, mu, fun od => ?_⟩
    refine go (S := S) hσ (lk od) nd fun J src => ?_
    have q := h.lock (od := od) hd hu nd
    exact comp_core (H := upd H d (.frz od u0)) (Q := fun v H' => H' d = some (.frz od u0) ∧ Q v (upd H' d u0)) src (hE.like (alike_lock hd hu nd)) (hS.like (alike_lock hd hu nd)) (fun _ z => z) (q.imp fun o S' ι' H' _ ok z u hu' => ⟨z.1, z.2.2 u (out_unlock hd z.1 hu z.2.1 hu')⟩)
  · exact rule.run pins s σ H Q I (go (S := S) hσ lk nd fun J src => comp_core src hE hS (fun _ z => z) h)
theorem snd_compK (hu : Sur X) (hN : X.N[i]? = some n) (hv : Vis X.env.scope n) (h1 : (n == ("__debug__" : Str)) = false) (h2 : (n == ("__classdict__" : Str)) = false) (ok : BlkOk X.N X.env.scope scope own)
    (hg : ∀ (s : Shared) (H : Hp) (A : Addr) (cl : List (Str × Addr)) (fp : List Addr), sndG (X.blk s H scope (compEnvC scope cl A X.env) fp) tg t)
    (ht : ∀ (s : Shared) (H : Hp) (A : Addr) (cl : List (Str × Addr)) (fp : List Addr), PTs (X.blk s H scope (compEnvC scope cl A X.env) fp) ifs (tB X.K er0 (evT C c)))
    (he : ∀ (s : Shared) (H : Hp) (A : Addr) (cl : List (Str × Addr)) (fp : List Addr), snd (X.blk s H scope (compEnvC scope cl A X.env) fp) er0 C elt e) (hs : ∀ x, foldedSetIterable (.Name n p) X.env x = pure x) :
    snd X er C (.ListComp elt [⟨tg, .Name n p, ifs, 0⟩] scope pos) (.comp (own.map (·.2)) t (.keys i) c e) :=
  ⟨fun pins s σ H Q I ⟨E, S, ι, hE, hS, h⟩ => by
    unfold ev evI at h
    obtain ⟨ds, hd, h⟩ := env_dict h
    exact comp_dict (f := fun p => p.1) I (pe_lc hu.calm hu.nd (pi_keys (pe_var hN hv h1 h2)) ok hg ht he hs) (fun a b c d => keys_go a b c d) hE hS hd h⟩
theorem snd_compI {elts : List Expr} {kk : Nat} {tpos : Pos} (hu : Sur X) (hN : X.N[i]? = some n) (hv : Vis X.env.scope n) (h1 : (n == ("__debug__" : Str)) = false) (h2 : (n == ("__classdict__" : Str)) = false) (ok : BlkOk X.N X.env.scope scope own)
    (hbase : attributeBase (.Name n p) "items" X.env (eval (.Name n p) X.env) = eval (.Name n p) X.env) (hline : (apos.endLine == cpos.line) = true)
    (hg : ∀ (s : Shared) (H : Hp) (A : Addr) (cl : List (Str × Addr)) (fp : List Addr), sndG (X.blk s H scope (compEnvC scope cl A X.env) fp) (.Tuple elts kk tpos) t)
    (ht : ∀ (s : Shared) (H : Hp) (A : Addr) (cl : List (Str × Addr)) (fp : List Addr), PTs (X.blk s H scope (compEnvC scope cl A X.env) fp) ifs (tB X.K er0 (evT C c)))
    (he : ∀ (s : Shared) (H : Hp) (A : Addr) (cl : List (Str × Addr)) (fp : List Addr), snd (X.blk s H scope (compEnvC scope cl A X.env) fp) er0 C elt e) (hs : ∀ x, foldedSetIterable (.Call (.Attribute (.Name n p) "items" apos) [] [] cpos) X.env x = pure x) :
    snd X er C (.ListComp elt [⟨.Tuple elts kk tpos, .Call (.Attribute (.Name n p) "items" apos) [] [] cpos, ifs, 0⟩] scope pos) (.comp (own.map (·.2)) t (.items i) c e) :=
  ⟨fun pins s σ H Q I ⟨E, S, ι, hE, hS, h⟩ => by
    unfold ev evI at h
    obtain ⟨ds, hd, h⟩ := env_dict h
    exact comp_dict (f := fun p => .tuple [p.1, p.2]) I (pe_lc hu.calm hu.nd (pi_itemsT (pe_var hN hv h1 h2) hbase hline) ok hg ht he hs) (fun a b c d => items_go a b c d) hE hS hd h⟩
end
end Lf

set_option Elab.async false
set_option linter.all false
set_option maxRecDepth 100000
set_option maxHeartbeats 4000000
/-! {k: v for t in it}: dicts of any keys. -/
namespace Lf
open PySem PySem.Spec PyProof.Rows L2
section
variable {X : Cx}
/-- a row put into the new dict -/
theorem dset_any {pins : List (Addr × Obj)} {σ : L2.St} {H H' : Hp} {s : Shared} {D : Addr} {y v : V} {u r : Value} {E : Value → Shared → Prop} {Q : Unit → Shared → Prop} (hu : X.A.units + 1 < cLine) (I : Inv X pins σ H s) (g : DPutA H D y v H')
    (ry : RelV y u) (rv : RelV v r) (h : ∀ s', Inv X pins σ H' s' → Q () s') : wpAny (model X.prog X.w) X.A (dictSet D u r) Q E s := by
  rcases g with (⟨kvs, k, e, rfl, l, rfl⟩ | ⟨kvs, k, b, e, rfl, eb, l, rfl⟩) | ⟨j, e, rfl, rfl⟩
  · exact d_dictSet I e l ry rv h
  · cases (show u = Value.ref b from ry)
    obtain ⟨z, hd, xs, rel, dd⟩ := dt_of I.hok e
    have zs : xs.length ≤ sizeLine := Nat.le_trans (Nat.le_of_eq (Paired.length rel).symm) z
    refine wpAny_dictSet_heap (hsz := zs) (show (tupleKind (mixKind X.prog X.w)).room X.A from Nat.lt_of_succ_lt hu) (key_of I.hok eb) dd fun h' dd' hs => h _ ?_
    obtain ⟨q, es, ep, hq, h2, h3, h4, _, h5⟩ := dd'
    have zl : (putK kvs k v).length ≤ sizeLine := Nat.le_trans (length_putK kvs k v) l
    exact d_write I (by rw [e]; trivial) hs ⟨q, hq⟩ ⟨zl, hd, _, (rel.put k eb rv).keeps fun c ys ec => by rw [upd_ne (ne_of ec e (fun z => nomatch z))]; exact ec, q, es, ep, hq, h2, h3, h4, h5⟩
  · refine d_dictSet (retagK I e) upd_same (by rw [sizeLine_eq]; simp) ry rv fun s' I' => h s' ?_
    rw [upd_upd] at I'
    exact I'
/-- the reading: D the new dict -/
def tDa (wi : TI) (g : TG) (tt : TT) (tk tv : TE) (vs : List Nat) : TE := fun σ H Q => wi σ H fun J H1 => ∀ D, H1 D = none → ∃ W : Nat → Nat → Hp → Prop, (∃ m, W 0 m (upd H1 D (.dT []))) ∧ ∀ i m H, W i m H →
  (J.stop i H ∧ Q (.ref D) H) ∨ (J.go i H ∧ ∃ Nx : Hp → Prop, (∀ H', Nx H' → ∃ m', m' < m ∧ W (i + 1) m' H') ∧ ∀ x H', J.yld i H x H' → g x (L2.wipe σ vs) H' fun σ2 H2 => L2.wipe σ2 vs = L2.wipe σ vs ∧ tt σ2 H2 fun b H3 =>
    if b = true then tk σ2 H3 fun y H4 => tv σ2 H4 fun z H5 => ∃ H6, DPutA H5 D y z H6 ∧ Nx H6 else Nx H3)
theorem da_core {pins : List (Addr × Obj)} {s0 : Shared} {σ : L2.St} {H : Hp} {Q : VK} {pos' : Pos} {use : Option (Value → Sem Unit)} {Qf : Value → Shared → Prop} {kx vx tg iter : Expr} {ifs : List Expr} {scope : Scope} {own : List (Str × Nat)} {pos : Pos} {wi : TI} {g : TG} {tt : TT} {tk tv : TE} (hu : X.A.units + 1 < cLine) (hc : X.calm = true) (hN : X.N.Nodup) (I0 : Inv X pins σ H s0) (hi : PI X tg iter wi) (ok : BlkOk X.N X.env.scope scope own)
    (hg : ∀ (s : Shared) (H : Hp) (A : Addr) (cl : List (Str × Addr)) (fp : List Addr), PG (X.blk s H scope (compEnvC scope cl A X.env) fp) tg g)
    (ht : ∀ (s : Shared) (H : Hp) (A : Addr) (cl : List (Str × Addr)) (fp : List Addr), PTs (X.blk s H scope (compEnvC scope cl A X.env) fp) ifs tt)
    (hk : ∀ (s : Shared) (H : Hp) (A : Addr) (cl : List (Str × Addr)) (fp : List Addr), PE (X.blk s H scope (compEnvC scope cl A X.env) fp) kx tk)
    (he : ∀ (s : Shared) (H : Hp) (A : Addr) (cl : List (Str × Addr)) (fp : List Addr), PE (X.blk s H scope (compEnvC scope cl A X.env) fp) vx tv) (hs : ∀ x, foldedSetIterable iter X.env x = pure x)
    (wish : tDa wi g tt tk tv (own.map (·.2)) σ H Q)
    (hRR : ∀ D C s' m H', Inv X pins σ H' s' → Q (.ref D) H' → s'.heap.Ns C m → FpOk X pins H' C → compPost (model X.prog X.w) X.A X.xe use Qf (.ref D) C (.ok .next) s') :
    wpAny (model X.prog X.w) X.A (comprehension (.DictComp kx vx [⟨tg, iter, ifs, 0⟩] scope pos) scope X.env pos' newDict false (eval iter X.env) use) Qf X.xe s0 := by
  -- names that come from around have their cells
  have cells : ∀ y ∈ scope.names, y.2 = .free → ∃ c, X.env.cells.lookup y.1 = some c := fun y hy e => I0.ok.has _ (ok.free y hy e)
  refine wpAny_comprehension_free (use := use) rfl hs (closure_ok cells) ok.kind (fun y hy e => by rw [ok.uniq y hy, e]) (thn (hi.run pins s0 σ H _ I0 wish) fun xv sa ha => thn ha fun itv sb hb => ?_)
  obtain ⟨it, fp, tn, J, Hb, e, Ib, T, stb, fb, q⟩ := hb
  subst e
  refine wpAny_newObj_type (newEnv_comp ?_)
  generalize eD : sb.heap.objs.size = D
  have freeD : Hb D = none := Ib.hok.fresh (Nat.le_of_eq eD)
  obtain ⟨W, ⟨m0, w0⟩, turn⟩ := q D freeD
  -- the new dict is laid
  generalize es : ({ sb with heap := sb.heap.push { cls := .type "dict", data := .dict #[] } } : Shared) = sc
  have heapC : sc.heap = sb.heap.push { cls := .type "dict", data := .dict #[] } := by rw [← es]
  generalize eH : upd Hb D (.dT []) = Hc at w0
  have Ic : Inv X pins σ Hc sc := by
    rw [← es, ← eH]
    exact Ib.laid (t' := sb.toks) (fun b o z => Heap.get?_push_of_some _ z) (Nat.le_of_eq eD) (by rw [← eD]; exact dt_empty sb.heap Ib.big)
  have below : ∀ b ∈ fp, b < sb.heap.objs.size := fun b hb => let ⟨_, z, _⟩ := T.obj _ _ stb b hb; Heap.lt_size z
  have fc : ∀ b ∈ fp, FpOk X pins Hc b ∧ b < sc.heap.objs.size := fun b hb => by
    have lt := below b hb
    refine ⟨⟨?_, (fb b hb).2⟩, by rw [heapC, Heap.size_push]; exact Nat.lt_succ_of_lt lt⟩
    rw [← eH, upd_ne (by rw [← eD]; exact Nat.ne_of_lt lt)]; exact (fb b hb).1
  have stc : tn 0 sc.heap := T.keep _ _ _ stb fun b _ o z => by rw [heapC]; exact Heap.get?_push_of_some _ z
  have Id := block_start Ic ok hN fc
  generalize ecl : cellsFrom (sc.heap.objs.size + 1) scope.names (cloFrom X.env.cells scope.names []) = cl at Id
  have pg := hg sc Hc sc.heap.objs.size cl fp
  have pt := ht sc Hc sc.heap.objs.size cl fp
  have pk := hk sc Hc sc.heap.objs.size cl fp
  have pv := he sc Hc sc.heap.objs.size cl fp
  show codeAny _ _ (.compStart (.DictComp kx vx [⟨tg, iter, ifs, 0⟩] scope pos) 0 (.ref it) (.ref D) (compEnvC scope cl sc.heap.objs.size X.env)) (compPost (model X.prog X.w) X.A X.xe use Qf (.ref D) sc.heap.objs.size) { sc with heap := pushCells (sc.heap.push { cls := .type "dict", data := .dict #[] }) scope.names }
  generalize ece : compEnvC scope cl sc.heap.objs.size X.env = ce at Id pg pt pk pv ⊢
  have local_ : ce.locals = sc.heap.objs.size := by subst ece; rfl
  generalize esd : ({ sc with heap := pushCells (sc.heap.push { cls := .type "dict", data := .dict #[] }) scope.names } : Shared) = sd at Id ⊢
  have std : tn 0 sd.heap := T.keep _ _ _ stc fun b _ o z => by rw [← esd]; exact pushCells_keeps _ _ _ _ (Heap.get?_push_of_some _ z)
  have quiet : ∀ {σ' : L2.St} {H' : Hp} {s' : Shared}, Inv (X.blk sc Hc scope ce fp) [] σ' H' s' → (∀ b ∈ fp, H' b = none) → ∀ b ∈ fp, FpOk (X.blk sc Hc scope ce fp) [] H' b := fun {σ' H' s'} I' hn b hb =>
    ⟨hn b hb, (I'.ok.exf b hb).1, I'.ok.exfs b hb, .inl hb, fun x c e => (I'.ok.exf b hb).2 x c e, fun p hp => absurd (show p ∈ ([] : List (Addr × Obj)) ++ [] from hp) (by simp)⟩
  have loop : codeAny (model X.prog X.w) X.A (.compLoop (.DictComp kx vx [⟨tg, iter, ifs, 0⟩] scope pos) 0 (.ref it) (.ref D) ce) (compPost (model X.prog X.w) X.A X.xe use Qf (.ref D) sc.heap.objs.size) sd := by
    refine compLoop_anyD (fun n s' => ∃ i H', Inv (X.blk sc Hc scope ce fp) [] (L2.wipe σ (own.map (·.2))) H' s' ∧ tn i s'.heap ∧ (∀ b ∈ fp, H' b = none) ∧ W i n H') ?_ m0 ⟨0, Hc, Id, std, fun b hb => (fc b hb).1.1, w0⟩
    rintro n se ⟨i, He, Ie, ste, ne, we⟩
    rcases turn i n He we with ⟨stop, done⟩ | ⟨go, Nx, less, step⟩
    · refine thnF (T.done (X.blk sc Hc scope ce fp) rfl rfl rfl hc i [] se _ He (fun _ _ => False) Ie (quiet Ie ne) ste stop) fun r sf ⟨hr, If⟩ => ?_
      subst hr
      have Ig : Inv X pins σ He sf := Ic.call' (ch := fp) If.os If.base If.hok If.bare fun b hb => ⟨(fc b hb).1.2.2.2.1, (fc b hb).1.2.1, (fc b hb).1.2.2.2.2.1, (fc b hb).1.2.2.2.2.2⟩
      have nC : He sc.heap.objs.size = none := by rw [← local_]; exact If.free
      obtain ⟨m, hn, _⟩ := If.loc
      have hn : sf.heap.Ns ce.locals m := hn
      rw [local_] at hn
      exact hRR D sc.heap.objs.size sf m He Ig done hn (Ic.fpOk (Nat.le_refl _) nC)
    · refine thnF (T.item (X.blk sc Hc scope ce fp) rfl rfl rfl hc i [] se _ He (fun _ _ => False) Ie (quiet Ie ne) ste go) fun r sf ⟨u, hr, hf⟩ => ?_
      subst hr
      refine thnF hf fun _ sg ⟨x, Hg, Ig, rg, yg, stg, ng⟩ => ?_
      refine thnF (pg.run _ sg _ Hg x u _ (Ig.pinned (quiet Ig ng) (T.obj _ _ stg)) rg (step x Hg yg)) fun _ sh ⟨σh, Hh, Ih, wh, qh⟩ => thnF (pt.run _ sh σh Hh _ Ih qh) fun b si ⟨Hi, Ii, qi⟩ => ?_
      have fin : ∀ {s' : Shared} {H' : Hp}, Inv (X.blk sc Hc scope ce fp) ([] ++ pinsAt fp sg.heap) σh H' s' → Nx H' → ∃ m, m < n ∧ ∃ i H', Inv (X.blk sc Hc scope ce fp) [] (L2.wipe σ (own.map (·.2))) H' s' ∧ tn i s'.heap ∧ (∀ b ∈ fp, H' b = none) ∧ W i m H' := fun {s' H'} I' nx => by
        obtain ⟨m', hm, w'⟩ := less H' nx
        have stays : ∀ b ∈ fp, ∀ o, sg.heap.get? b = some o → s'.heap.get? b = some o ∧ H' b = none := fun b hb o z =>
          have z' := I'.pin (b, o) (List.mem_append_right _ (List.mem_append_right _ (mem_pinsAt hb z)))
          ⟨z'.1, z'.2.1⟩
        refine ⟨m', hm, i + 1, H', (I'.unpinned (pins := [])).weak (by rw [← wh, wipe_length]) (fun j v z => by rw [← wh] at z; exact (wipe_some z).1), T.keep _ _ _ stg fun b hb o z => (stays b hb o z).1, fun b hb => ?_, w'⟩
        obtain ⟨o, z, _⟩ := T.obj _ _ stg b hb
        exact (stays b hb o z).2
      cases b with
      | false => exact fin Ii qi
      | true => exact thnF (pk.run _ si σh Hi _ Ii qi) fun z1 sj ⟨y1, Hj, Ij, rj, qj⟩ => thnF (pv.run _ sj σh Hj _ Ij qj) fun z2 sk ⟨y2, Hk, Ik, rk, H6, put, nx⟩ => dset_any (X := X.blk sc Hc scope ce fp) hu Ik put rj rk fun sl Il => fin Il nx
  exact codeAny_compStart_dict loop (T.self X.A 0 _ _ _ std loop)
/-- .. holds of a dict comprehension -/
theorem pe_da {kx vx tg iter : Expr} {ifs : List Expr} {scope : Scope} {own : List (Str × Nat)} {pos : Pos} {wi : TI} {g : TG} {tt : TT} {tk tv : TE} (hu : X.A.units + 1 < cLine) (hc : X.calm = true) (hN : X.N.Nodup) (hi : PI X tg iter wi) (ok : BlkOk X.N X.env.scope scope own)
    (hg : ∀ (s : Shared) (H : Hp) (A : Addr) (cl : List (Str × Addr)) (fp : List Addr), PG (X.blk s H scope (compEnvC scope cl A X.env) fp) tg g)
    (ht : ∀ (s : Shared) (H : Hp) (A : Addr) (cl : List (Str × Addr)) (fp : List Addr), PTs (X.blk s H scope (compEnvC scope cl A X.env) fp) ifs tt)
    (hk : ∀ (s : Shared) (H : Hp) (A : Addr) (cl : List (Str × Addr)) (fp : List Addr), PE (X.blk s H scope (compEnvC scope cl A X.env) fp) kx tk)
    (he : ∀ (s : Shared) (H : Hp) (A : Addr) (cl : List (Str × Addr)) (fp : List Addr), PE (X.blk s H scope (compEnvC scope cl A X.env) fp) vx tv) (hs : ∀ x, foldedSetIterable iter X.env x = pure x) :
    PE X (.DictComp kx vx [⟨tg, iter, ifs, 0⟩] scope pos) (tDa wi g tt tk tv (own.map (·.2))) := ⟨fun pins s0 σ H Q I0 wish => by
  rw [arm_eval_DictComp]
  refine da_core hu hc hN I0 hi ok hg ht hk he hs wish fun D C s' m H' I' q hn f => ⟨m, hn, fun h'' sb => ?_⟩
  obtain ⟨f0, f1, f2, f3, f4, f5⟩ := f
  exact ⟨.ref D, H', I'.turned (t' := s'.toks) (fun b o hb e => (sb.2 b hb).trans e) f0 f1 f3 f4 f5, rfl, q⟩⟩
/-- name = {..} on one line, the name a local -/
theorem ps_setDa {i : Nat} {y : Str} {py : Pos} {kx vx tg iter : Expr} {ifs : List Expr} {scope : Scope} {own : List (Str × Nat)} {pos spos : Pos} {wi : TI} {g : TG} {tt : TT} {tk tv : TE} (hu : X.A.units + 1 < cLine) (hc : X.calm = true) (hN : X.N.Nodup) (hy : X.N[i]? = some y) (hyl : X.env.scope.names.lookup y = some .local)
    (hsw : swapsWith (.DictComp kx vx [⟨tg, iter, ifs, 0⟩] scope pos) (some (.Name y py)) spos.line X.env = pure true) (hi : PI X tg iter wi) (ok : BlkOk X.N X.env.scope scope own)
    (hg : ∀ (s : Shared) (H : Hp) (A : Addr) (cl : List (Str × Addr)) (fp : List Addr), PG (X.blk s H scope (compEnvC scope cl A X.env) fp) tg g)
    (ht : ∀ (s : Shared) (H : Hp) (A : Addr) (cl : List (Str × Addr)) (fp : List Addr), PTs (X.blk s H scope (compEnvC scope cl A X.env) fp) ifs tt)
    (hk : ∀ (s : Shared) (H : Hp) (A : Addr) (cl : List (Str × Addr)) (fp : List Addr), PE (X.blk s H scope (compEnvC scope cl A X.env) fp) kx tk)
    (he : ∀ (s : Shared) (H : Hp) (A : Addr) (cl : List (Str × Addr)) (fp : List Addr), PE (X.blk s H scope (compEnvC scope cl A X.env) fp) vx tv) (hs : ∀ x, foldedSetIterable iter X.env x = pure x) :
    PS X (.Assign [.Name y py] (.DictComp kx vx [⟨tg, iter, ifs, 0⟩] scope pos) spos) (tAsg (tDa wi g tt tk tv (own.map (·.2))) (gName i)) := by
  refine ⟨fun pins s σ H D I h => ?_⟩
  rw [exec_Assign_Name_used _ _ _ _ hsw]
  refine wpAny_bind (wpAny_standAt (wpAny_bind ?_))
  show wpAny _ X.A (do let _ ← comprehension (.DictComp kx vx [⟨tg, iter, ifs, 0⟩] scope pos) scope X.env (firstIterPos [⟨tg, iter, ifs, 0⟩] pos) newDict false (eval iter X.env) (some (assign (.Name y py) X.env))) _ _ s
  have h : tDa wi g tt tk tv (own.map (·.2)) σ H (fun x H1 => gName i x σ H1 D.nx) := h
  refine wpAny_bind (thn (da_core (Qf := fun _ s' => SP X pins D .next s') hu hc hN I hi ok hg ht hk he hs h fun L C s' m H' I' q hn f => ?_) fun _ s' hq => wpAny_pure (wpAny_pure hq))
  show wpAny _ _ (assign (.Name y py) X.env (.ref L)) _ _ _
  refine wpAny_assign_Name (store_ok2 (v := V.ref L) I' hN hy (.inl hyl) rfl (fun s2 I2 ⟨a, sb, ha⟩ => ?_) (.inr hyl))
  obtain ⟨f0, f1, f2, f3, f4, f5⟩ := f
  have haC : C ≠ a := by
    rcases ha with z | z
    · rw [z]; exact f1
    · exact fun e => f4 y a z e.symm
  refine ⟨m, hn.sameBut sb haC, fun h3 sb3 => ?_⟩
  exact ⟨_, H', I2.turned (t' := s2.toks) (fun b o hb e => (sb3.2 b hb).trans e) f0 f1 f3 f4 f5, q⟩
end
end Lf

set_option Elab.async false
set_option linter.all false
set_option maxRecDepth 100000
set_option maxHeartbeats 4000000
/-! Dict comprehensions, read. -/
namespace Lf
open PySem PySem.Spec PyProof.Rows L2
theorem CellOk.far {K : PySem.W.Frag} {ι ι' : Adr} {H H' : Hp} {D : Addr} (s : Step ι H ι' H') (n : some D ∉ ι.at_) : ∀ {c}, CellOk K ι H D c → CellOk K ι' H' D c
  | .lst _, ⟨ys, h, r⟩ => ⟨ys, s.keep _ _ h n, r.mono s⟩
  | .dct _, .inl ⟨ys, h, e, r⟩ => .inl ⟨ys, s.keep _ _ h n, e, r.mono s⟩
  | .dct _, .inr ⟨ys, h, e, r⟩ => .inr ⟨ys, s.keep _ _ h n, e, r.mono s⟩
section
variable {er : ER} {C : CallT} {t : Tg} {c k e : Ex}
theorem dcomp_core {K : PySem.W.Frag} {E : Env} {σ : L2.St} {S1 : Store} {ι1 : Adr} {H H1 : Hp} {Q : VK} {J : It} {items : List PyData} {ow : List Nat} (src : Src K J ι1 H1 items) (hE1 : EnvOk K ι1 H1 E σ) (ok1 : StOk K ι1 H1 S1) (dm : ∀ a, H1 a = none → H a = none)
    (q : Post K er ι1 H1 (fun o S' ι' H' => ∀ u, OutOk K H ι' H' S' o u → Q u H') ((if wipes ow t then M.bind (noExc (dcomprL (fun x => bindT t x (wipeE E ow)) (fun E => evT C c E) (fun E => datum (ev C k E)) (fun E => datum (ev C e E)) items [])) fun ys => M.pure (.dct ys) else fun _ => .stuck) S1)) :
    tDa (fun _ _ R => R J H1) (tG K t) (tB K er0 (evT C c)) (tE K er0 (ev C k)) (tE K er0 (ev C e)) ow σ H Q := by
  intro D hD
  obtain ⟨hw, q⟩ := Post.ite q
  have q0 := noExc_post q
  clear q
  have sD : Same H1 (upd H1 D (.dT [])) := same_upd hD
  have okD : StOk K (ι1.hide D) (upd H1 D (.dT [])) S1 := ok1.hide hD (fun _ => nofun)
  have nD : ¬ ι1.av D := fresh_off ok1 hD
  let Fin : List (PyData × PyData) → Store → Adr → Hp → Prop := fun ys _ ι'' Hx => ∀ o', CellOk K ι'' (upd Hx D o') D (.dct ys) → Q (.ref D) (upd Hx D o')
  have finInv : ∀ (a : List (PyData × PyData)) (S' : Store) (ι' : Adr) (Hx : Hp) (o' : HO), ι'.hid D → Fin a S' ι' Hx → Fin a S' ι' (upd Hx D o') := fun a S' ι' Hx o' hd g o2 r => by
    rw [upd_upd] at r ⊢
    exact g o2 r
  have start : Post K er0 (ι1.hide D) (upd H1 D (.dT [])) Fin (dcomprL (fun x => bindT t x (wipeE E ow)) (fun E => evT C c E) (fun E => datum (ev C k E)) (fun E => datum (ev C e E)) items [] S1) := by
    have back : ∀ {ι'' H''}, Step (ι1.hide D) (upd H1 D (.dT [])) ι'' H'' → Step ι1 H1 ι'' H'' := fun s =>
      ({ len := Nat.le_refl _, old := fun _ _ _ h => h, new := fun n a h e => absurd (List.getElem?_eq_some_iff.mp e).1 (Nat.not_lt.mpr h), keep := fun a o h _ => sD a o h,
         hd := fun a h => h.elim .inl fun z => .inr (by rw [z]; exact hD), hm := fun a h => .inl h, dom := fun a h => sD.free h } : Step ι1 H1 (ι1.hide D) (upd H1 D (.dT []))).trans s
    cases qr : dcomprL (fun x => bindT t x (wipeE E ow)) (fun E => evT C c E) (fun E => datum (ev C k E)) (fun E => datum (ev C e E)) items [] S1 with
    | stuck => rw [qr] at q0; exact q0
    | exc cc S' => rw [qr] at q0; exact fun ι'' H'' s k => q0 ι'' H'' (back s) (k.conv rfl (fun a o h n => ⟨h, n⟩) (fun _ _ => rfl) fun a h => k.hid a h)
    | ok ys S'' =>
      rw [qr] at q0
      intro ι'' H'' s k o' rc
      have s1 := back s
      have hdD : ι''.hid D := s.hm D (.inr rfl)
      have nhD : some D ∉ ι''.at_ := (k.hid D hdD).1
      let ι2 : Adr := ⟨ι''.at_, ι1.hid⟩
      have sub : ∀ a, (ι2.hide D).av a → ι''.av a := fun a z => z.elim .inl fun z => .inr (z.elim (fun z => s.hm a (.inl z)) fun z => by rw [z]; exact hdD)
      have f : ∀ a o, H'' a = some o → ¬ ι''.av a → upd H'' D o' a = some o ∧ ¬ (ι2.hide D).av a := fun a o h n =>
        ⟨by rw [upd_ne (fun e : a = D => n (.inr (by rw [e]; exact hdD)))]; exact h, fun z => n (sub a z)⟩
      obtain ⟨oo, eoo, noo⟩ := rc.isSome
      have ok2 : StOk K (ι2.hide D) (upd H'' D o') S'' := k.conv rfl f (fun a h => upd_ne fun e => nhD (by rw [← e]; exact h)) fun a h => by
        rcases h with h | h
        · obtain ⟨n, o, e, z⟩ := k.hid a (s.hm a (.inl h))
          refine ⟨n, o, ?_, z⟩
          rw [upd_ne fun e => nD (.inr (by rw [← e]; exact h))]; exact e
        · subst h
          exact ⟨nhD, _, eoo, noo⟩
      have ok3 : StOk K ι2 (upd H'' D o') S'' := ok2.conv rfl (fun a o h n => ⟨h, fun z => n (z.imp id .inl)⟩) (fun _ _ => rfl) fun a h => ok2.hid a (.inl h)
      have nD2 : ¬ ι2.av D := fun z => z.elim nhD fun z => nD (.inr z)
      have st2 : Step ι1 H1 ι2 (upd H'' D o') :=
        { len := s1.len, old := s1.old, new := s1.new
          keep := fun a o h n => by
            rw [upd_ne (ne_of_none h hD)]
            exact s1.keep a o h n
          hd := fun a h => .inl h
          hm := fun a h => h
          dom := fun a e => by
            by_cases z : a = D
            · rw [z]; exact hD
            · rw [upd_ne z] at e; exact s1.dom a e }
      have g := q0 ι2 _ st2 ok3
      have g := Post.pure g ok3
      refine g (.ref D) ⟨D, rfl, dm D hD, nD2, StOk.unhide ok2 (rc.map (fun a o h n => ⟨h, fun z => n (sub a z)⟩) rfl) fun z => nD (.inr z)⟩
  clear q0
  let W : Nat → Nat → Hp → Prop := fun i m Hc => m = items.length - i ∧ i ≤ items.length ∧ ∃ S' ι' ds, Step ι1 H1 ι' Hc ∧ StOk K ι' Hc S' ∧ ι'.hid D ∧ CellOk K ι' Hc D (.dct ds) ∧
    Post K er0 ι' Hc Fin (dcomprL (fun x => bindT t x (wipeE E ow)) (fun E => evT C c E) (fun E => datum (ev C k E)) (fun E => datum (ev C e E)) (items.drop i) ds S')
  have st0 : Step ι1 H1 (ι1.hide D) (upd H1 D (.dT [])) :=
    { len := Nat.le_refl _, old := fun _ _ _ h => h, new := fun n a h e => absurd (List.getElem?_eq_some_iff.mp e).1 (Nat.not_lt.mpr h), keep := fun a o h _ => sD a o h,
      hd := fun a h => h.elim .inl fun z => .inr (by rw [z]; exact hD), hm := fun a h => .inl h, dom := fun a h => sD.free h }
  refine ⟨W, ⟨items.length, by omega, Nat.zero_le _, S1, ι1.hide D, [], st0, okD, .inr rfl, .inr ⟨[], upd_same, rfl, .nil⟩, start⟩, ?_⟩
  rintro i m Hc ⟨rfl, hi, S', ι', ds, s', ok', hd', cD, pp⟩
  have src' := src ι' Hc S' s' ok' i
  by_cases hlt : i < items.length
  · have hit : items[i]? = some items[i] := List.getElem?_eq_getElem hlt
    obtain ⟨go, yl⟩ := src'.1 _ hit
    refine .inr ⟨go, W (i + 1) (items.length - (i + 1)), fun H' w => ⟨_, by omega, w⟩, fun x H'' y => ?_⟩
    obtain ⟨sm, rx⟩ := yl x H'' y
    rw [List.drop_eq_getElem_cons hlt] at pp
    unfold dcomprL at pp
    have pp := pp.same sm
    have ok2 := ok'.same sm
    have s2 : Step ι1 H1 ι' H'' := s'.trans (Step.same sm)
    have c2 : CellOk K ι' H'' D (.dct ds) := cD.far (Step.same sm) (ok'.hid D hd').1
    obtain ⟨E1, e1, pp⟩ := (Post.bind pp).lift ok2
    refine ⟨wipeE E ow, _, S', ι', E1, (hE1.mono s2).wipe ow, rx, ok2, e1, fun σ2 hE2 hwp => ⟨wipe_idem σ ow σ2 (hwp ow hw), ?_⟩⟩
    refine useB hE2 ok2 pp fun b S3 ι3 H3 st3 ok3 he3 pp => ?_
    have hd3 : ι3.hid D := st3.hm D hd'
    have c3 : CellOk K ι3 H3 D (.dct ds) := c2.far st3 (ok2.hid D hd').1
    cases b with
    | false =>
      refine iteF ⟨rfl, hlt, S3, ι3, ds, s2.trans st3, ok3, hd3, c3, pp⟩
    | true =>
      refine iteT (useD he3 ok3 pp fun y S4 ι4 H4 u st4 ok4 he4 hu4 pp => useD he4 ok4 pp fun z S5 ι5 H5 u5 st5 ok5 he5 hu5 pp => ?_)
      obtain ⟨ds', eput, pp⟩ := (Post.bind pp).lift ok5
      have hd4 : ι4.hid D := st4.hm D hd3
      have hd5 : ι5.hid D := st5.hm D hd4
      have c5 : CellOk K ι5 H5 D (.dct ds) := (c3.far st4 (ok3.hid D hd3).1).far st5 (ok4.hid D hd4).1
      have s5 : Step ι1 H1 ι5 H5 := ((s2.trans st3).trans st4).trans st5
      obtain ⟨H6, o6, dp, rfl, c6⟩ := put_cell (.inr hd5) c5 (hu4.mono st5) hu5 eput
      obtain ⟨o5, e5, n5⟩ := c5.isSome
      obtain ⟨o6', e6, n6⟩ := c6.isSome
      rw [upd_same] at e6
      cases e6
      refine ⟨_, dp, rfl, hlt, S5, ι5, ds', ?_, ok5.rehid hd5 n6, hd5, c6, ?_⟩
      · exact { len := s5.len, old := s5.old, new := s5.new, hd := s5.hd, hm := s5.hm
                keep := fun a o h n => by rw [upd_ne (ne_of_none h hD)]; exact s5.keep a o h n
                dom := fun a e => by
                  by_cases z : a = D
                  · rw [z]; exact hD
                  · rw [upd_ne z] at e; exact s5.dom a e }
      · exact pp.rehid hd5 e5 (ok5.hid D hd5).1 n5 finInv
  · have e : i = items.length := by omega
    subst e
    refine .inl ⟨src'.2 (Nat.le_refl _), ?_⟩
    rw [List.drop_length] at pp
    obtain ⟨oD, eD, _⟩ := cD.isSome
    have g := Post.pure pp ok' oD (by rw [upd_id eD]; exact cD)
    rw [upd_id eD] at g
    exact g
end
section
variable {X : Cx} {er : ER} {C : CallT} {kx vx tg iter : Expr} {ifs : List Expr} {scope : Scope} {own : List (Str × Nat)} {t : Tg} {it : Ir} {c k e : Ex} {pos : Pos}
theorem snd_dcomp (hu : Sur X) (hi : sndI X er C tg iter it) (ok : BlkOk X.N X.env.scope scope own)
    (hg : ∀ (s : Shared) (H : Hp) (A : Addr) (cl : List (Str × Addr)) (fp : List Addr), sndG (X.blk s H scope (compEnvC scope cl A X.env) fp) tg t)
    (ht : ∀ (s : Shared) (H : Hp) (A : Addr) (cl : List (Str × Addr)) (fp : List Addr), PTs (X.blk s H scope (compEnvC scope cl A X.env) fp) ifs (tB X.K er0 (evT C c)))
    (hk : ∀ (s : Shared) (H : Hp) (A : Addr) (cl : List (Str × Addr)) (fp : List Addr), snd (X.blk s H scope (compEnvC scope cl A X.env) fp) er0 C kx k)
    (he : ∀ (s : Shared) (H : Hp) (A : Addr) (cl : List (Str × Addr)) (fp : List Addr), snd (X.blk s H scope (compEnvC scope cl A X.env) fp) er0 C vx e) (hs : ∀ x, foldedSetIterable iter X.env x = pure x) :
    snd X er C (.DictComp kx vx [⟨tg, iter, ifs, 0⟩] scope pos) (.dcomp (own.map (·.2)) t it c k e) :=
  PE.weak (pe_da (by have := hu.un; omega) hu.calm hu.nd hi ok hg ht hk he hs) fun σ H Q ⟨E, S, ι, hE, hS, h⟩ => by
    unfold ev at h
    exact ⟨E, S, ι, hE, hS, h.bind.imp fun items S1 ι1 H1 st ok1 q J src => dcomp_core src (hE.mono st) ok1 st.dom q⟩
theorem set_dcomp {i : Nat} {n : Str} {py spos : Pos} {D : Ends} {σ : L2.St} {H : Hp} (hu : Sur X) (hy : X.N[i]? = some n) (hyl : X.env.scope.names.lookup n = some .local)
    (hsw : swapsWith (.DictComp kx vx [⟨tg, iter, ifs, 0⟩] scope pos) (some (.Name n py)) spos.line X.env = pure true) (hi : sndI X er C tg iter it) (ok : BlkOk X.N X.env.scope scope own)
    (hg : ∀ (s : Shared) (H : Hp) (A : Addr) (cl : List (Str × Addr)) (fp : List Addr), sndG (X.blk s H scope (compEnvC scope cl A X.env) fp) tg t)
    (ht : ∀ (s : Shared) (H : Hp) (A : Addr) (cl : List (Str × Addr)) (fp : List Addr), PTs (X.blk s H scope (compEnvC scope cl A X.env) fp) ifs (tB X.K er0 (evT C c)))
    (hk : ∀ (s : Shared) (H : Hp) (A : Addr) (cl : List (Str × Addr)) (fp : List Addr), snd (X.blk s H scope (compEnvC scope cl A X.env) fp) er0 C kx k)
    (he : ∀ (s : Shared) (H : Hp) (A : Addr) (cl : List (Str × Addr)) (fp : List Addr), snd (X.blk s H scope (compEnvC scope cl A X.env) fp) er0 C vx e) (hs : ∀ x, foldedSetIterable iter X.env x = pure x) :
    PS X (.Assign [.Name n py] (.DictComp kx vx [⟨tg, iter, ifs, 0⟩] scope pos) spos) (tAsg (tE X.K er (ev C (.dcomp (own.map (·.2)) t it c k e))) (gName i)) :=
  PS.weak (ps_setDa (by have := hu.un; omega) hu.calm hu.nd hy hyl hsw hi ok hg ht hk he hs) fun D σ H ⟨E, S, ι, hE, hS, h⟩ => by
    unfold ev at h
    exact ⟨E, S, ι, hE, hS, h.bind.imp fun items S1 ι1 H1 st ok1 q J src => dcomp_core src (hE.mono st) ok1 st.dom q⟩
end
end Lf

set_option Elab.async false
set_option linter.all false
set_option maxRecDepth 100000
set_option maxHeartbeats 4000000
/-! a, b = x, y -/
namespace Lf
open PySem PySem.Spec PyProof.Rows L2
theorem swapped_two {n m : Str} {px py pt p2 : Pos} {kt k2} {a b : Expr} {env : PySem.Env} (hk : env.scope.kind = .function) (hn : env.scope.names.lookup n = some .local) (hm : env.scope.names.lookup m = some .local) (hne : n ≠ m) (hl : px.line = py.line)
    (hs : [a, b].any (fun | .Starred .. => true | _ => false) = false) (hf : [a, b].all (foldedForSure 8) = false) (hc : [a, b].all (constantsAlone 8) = false) :
    swappedStores [.Tuple [.Name n px, .Name m py] kt pt] (.Tuple [a, b] k2 p2) env = pure (some [n, m]) := by
  have e1 : env.blockKind = .function := by
    unfold Env.blockKind
    rw [hk]; rfl
  have k1 : env.kindOf n = some .local := hn
  have k3 : env.kindOf m = some .local := hm
  have e3 : ([n, m] : List Str).eraseDups.length = 2 := by
    have q : (m == n) = false := beq_eq_false_iff_ne.mpr (Ne.symm hne)
    simp [List.eraseDups, List.eraseDupsBy, List.eraseDupsBy.loop, q]
  unfold swappedStores
  simp only [List.length_cons, List.length_nil, e1, hs, hf, hc]
  have l1 : py.line = px.line := hl.symm
  simp only [List.any_cons, List.any_nil, Bool.or_false, Bool.or_eq_false_iff] at hs
  obtain ⟨s1, s2⟩ := hs
  simp [k1, k3, Expr.pos, l1, e3]
  rintro (z | z)
  · clear hf hc s2
    cases a <;> first | (exact absurd z Bool.false_ne_true) | (exact absurd s1.symm Bool.false_ne_true)
  · clear hf hc s1
    cases b <;> first | (exact absurd z Bool.false_ne_true) | (exact absurd s2.symm Bool.false_ne_true)
theorem swapped_three {n m o : Str} {px py pz pt p2 : Pos} {kt k2} {a b c : Expr} {env : PySem.Env} (hk : env.scope.kind = .function) (hn : env.scope.names.lookup n = some .local) (hm : env.scope.names.lookup m = some .local) (ho : env.scope.names.lookup o = some .local)
    (nm : n ≠ m) (no : n ≠ o) (mo : m ≠ o) (hl : px.line = py.line) (hl2 : px.line = pz.line)
    (hs : [a, b, c].any (fun | .Starred .. => true | _ => false) = false) (hf : [a, b, c].all (foldedForSure 8) = false) (hc : [a, b, c].all (constantsAlone 8) = false) :
    swappedStores [.Tuple [.Name n px, .Name m py, .Name o pz] kt pt] (.Tuple [a, b, c] k2 p2) env = pure (some [n, m, o]) := by
  have e1 : env.blockKind = .function := by
    unfold Env.blockKind
    rw [hk]; rfl
  have k1 : env.kindOf n = some .local := hn
  have k3 : env.kindOf m = some .local := hm
  have k4 : env.kindOf o = some .local := ho
  have e3 : ([n, m, o] : List Str).eraseDups.length = 3 := by
    have q : (m == n) = false := beq_eq_false_iff_ne.mpr (Ne.symm nm)
    have q2 : (o == n) = false := beq_eq_false_iff_ne.mpr (Ne.symm no)
    have q3 : (o == m) = false := beq_eq_false_iff_ne.mpr (Ne.symm mo)
    simp [List.eraseDups, List.eraseDupsBy, List.eraseDupsBy.loop, q, q2, q3]
  unfold swappedStores
  simp only [List.length_cons, List.length_nil, e1, hs, hf, hc]
  have l1 : py.line = px.line := hl.symm
  have l2 : pz.line = px.line := hl2.symm
  simp only [List.any_cons, List.any_nil, Bool.or_false, Bool.or_eq_false_iff] at hs
  obtain ⟨s1, s2, s3⟩ := hs
  simp [k1, k3, k4, Expr.pos, l1, l2, e3]
  rintro (z | z | z)
  · clear hf hc s2 s3
    cases a <;> first | (exact absurd z Bool.false_ne_true) | (exact absurd s1.symm Bool.false_ne_true)
  · clear hf hc s1 s3
    cases b <;> first | (exact absurd z Bool.false_ne_true) | (exact absurd s2.symm Bool.false_ne_true)
  · clear hf hc s1 s2
    cases c <;> first | (exact absurd z Bool.false_ne_true) | (exact absurd s3.symm Bool.false_ne_true)
def tPar3 (i j k : Nat) (ta : TA) : TS := fun D σ H => ta σ H fun vs H1 => ∃ u v w, vs = [u, v, w] ∧ D.nx (((σ.set i (some u)).set j (some v)).set k (some w)) H1
theorem ps_par3 {X : Cx} {pos : Pos} {i j k : Nat} {x y z : Str} {a b c : Expr} {ta : TA} {px py pz pt : Pos} {kt k2 pt2} (hc : X.calm = true) (hN : X.N.Nodup) (hi : X.N[i]? = some x) (hj : X.N[j]? = some y) (hk : X.N[k]? = some z) (hij : i ≠ j) (hik : i ≠ k) (hjk : j ≠ k)
    (hx : X.env.scope.names.lookup x = some .local) (hy : X.env.scope.names.lookup y = some .local) (hz : X.env.scope.names.lookup z = some .local) (ha : PA X [a, b, c] ta)
    (hw : swappedStores [.Tuple [.Name x px, .Name y py, .Name z pz] kt pt] (.Tuple [a, b, c] k2 pt2) X.env = pure (some [x, y, z]))
    (hs : swapsWithSole [.Tuple [.Name x px, .Name y py, .Name z pz] kt pt] (.Tuple [a, b, c] k2 pt2) pos.line X.env = pure false := by rfl) :
    PS X (.Assign [.Tuple [.Name x px, .Name y py, .Name z pz] kt pt] (.Tuple [a, b, c] k2 pt2) pos) (tPar3 i j k ta) := by
  refine ⟨fun pins s σ H D I h => ?_⟩
  rw [exec_Assign_arm]
  refine wpAny_bind (wpAny_standAt ?_)
  rw [hs]
  refine wpAny_bind (wpAny_pure ?_)
  rw [if_neg (by decide)]
  refine wpAny_bind (Tuple_ (thn (ha.run _ pins s σ H _ I h) fun us s1 ⟨vs, H1, I1, r1, q1⟩ => ?_))
  obtain ⟨u, v, w, e1, q1⟩ := q1
  subst e1
  obtain ⟨u1, u2, u3, rfl, ru, rv, rw'⟩ : ∃ u1 u2 u3, us = [u1, u2, u3] ∧ RelV u u1 ∧ RelV v u2 ∧ RelV w u3 := by
    cases r1 with
    | cons p q =>
      cases q with
      | cons p' q' =>
        cases q' with
        | cons p2 q2 =>
          cases q2
          exact ⟨_, _, _, rfl, p, p', p2⟩
  refine wpAny_newObj_type ?_ (by show 3 ≤ sizeLine; decide)
  have I2 : Inv X pins σ H1 { s1 with heap := s1.heap.push { cls := .type "tuple", data := .seq [u1, u2, u3].toArray } } := I1.kept (t' := s1.toks) fun b o e => Heap.get?_push_of_some _ e
  rw [hw]
  refine wpAny_bind (wpAny_pure ?_)
  show wpAny (model X.prog X.w) X.A (do rule "assign.swapped-stores"; let items ← unpackItems (.ref s1.heap.objs.size) 3 none; assignInOrder [fun v => bindName X.env z v, fun v => bindName X.env y v, fun v => bindName X.env x v] items.reverse; pure Flow.next) _ _ _
  refine wpAny_bind (wpAny_rule (wpAny_bind (unpackItems_tuple (items := #[u1, u2, u3]) (I.ok.hd hc) (IsTup.new s1.heap _) fun h' hx' => ?_)))
  have I3 := I2.kept (h' := h') (t' := s1.toks) fun b o e => hx' b o (Nat.ne_of_lt (Heap.lt_size e)) e
  show wpAny _ _ (assignInOrder [fun v => bindName X.env z v, fun v => bindName X.env y v, fun v => bindName X.env x v] [u3, u2, u1] >>= fun _ => pure Flow.next) _ _ _
  refine wpAny_bind (assignInOrder_cons (wpAny_bindName (store_ok I3 hN hk (.inl hz) rw' (fun s2 I4 => ?_) (.inr hz))))
  refine assignInOrder_cons (wpAny_bindName (store_ok I4 hN hj (.inl hy) rv (fun s3 I5 => ?_) (.inr hy)))
  refine assignInOrder_cons (wpAny_bindName (store_ok I5 hN hi (.inl hx) ru (fun s4 I6 => assignInOrder_nil (wpAny_pure ?_)) (.inr hx)))
  rw [List.set_comm _ _ (Ne.symm hij), List.set_comm _ _ (Ne.symm hik), List.set_comm _ _ (Ne.symm hjk)] at I6
  exact ⟨_, H1, I6, q1⟩
section
variable {X : Cx} {er : ER} {C : CallT} {a b : Expr} {x y : Ex} {pos px py pt p2 : Pos} {n m : Str} {kt k2 : _}
theorem s_par {i j : Nat} (hu : Sur X) (hi : X.N[i]? = some n) (hj : X.N[j]? = some m) (hij : i ≠ j) (hn : X.env.scope.names.lookup n = some .local) (hm : X.env.scope.names.lookup m = some .local) (hk : X.env.scope.kind = .function) (hne : n ≠ m) (hl : px.line = py.line)
    (ha : sndVs X er C [a, b] (.cons x (.cons y .nil))) (hs : [a, b].any (fun | .Starred .. => true | _ => false) = false) (hf : [a, b].all (foldedForSure 8) = false) (hc : [a, b].all (constantsAlone 8) = false) :
    sndS X er C (.Assign [.Tuple [.Name n px, .Name m py] kt pt] (.Tuple [a, b] k2 p2) pos) (.par i j x y) :=
  PS.weak (ps_par hu.calm hu.nd hi hj hij hn hm ha (swapped_two hk hn hm hne hl hs hf hc)) fun D σ H ⟨E, S, ι, hE, hS, h⟩ => by
    unfold exec at h
    refine useVs hE hS h fun vs S1 ι1 H1 us st ok he hu q => ?_
    cases hu with
    | nil => exact q.elim
    | cons r1 t =>
      cases t with
      | nil => exact q.elim
      | cons r2 t =>
        cases t with
        | cons _ _ => exact q.elim
        | nil => exact ⟨_, _, rfl, fl_nx q ok ((he.set r1).set r2)⟩
theorem s_par3 {c : Expr} {z : Ex} {pz : Pos} {o : Str} {i j k : Nat} (hu : Sur X) (hi : X.N[i]? = some n) (hj : X.N[j]? = some m) (hk' : X.N[k]? = some o) (hij : i ≠ j) (hik : i ≠ k) (hjk : j ≠ k) (hn : X.env.scope.names.lookup n = some .local) (hm : X.env.scope.names.lookup m = some .local) (ho : X.env.scope.names.lookup o = some .local)
    (hk : X.env.scope.kind = .function) (nm : n ≠ m) (no : n ≠ o) (mo : m ≠ o) (hl : px.line = py.line) (hl2 : px.line = pz.line)
    (ha : sndVs X er C [a, b, c] (.cons x (.cons y (.cons z .nil)))) (hs : [a, b, c].any (fun | .Starred .. => true | _ => false) = false) (hf : [a, b, c].all (foldedForSure 8) = false) (hc : [a, b, c].all (constantsAlone 8) = false) :
    sndS X er C (.Assign [.Tuple [.Name n px, .Name m py, .Name o pz] kt pt] (.Tuple [a, b, c] k2 p2) pos) (.par3 i j k x y z) :=
  PS.weak (ps_par3 hu.calm hu.nd hi hj hk' hij hik hjk hn hm ho ha (swapped_three hk hn hm ho nm no mo hl hl2 hs hf hc)) fun D σ H ⟨E, S, ι, hE, hS, h⟩ => by
    unfold exec at h
    refine useVs hE hS h fun vs S1 ι1 H1 us st ok he hu q => ?_
    cases hu with
    | nil => exact q.elim
    | cons r1 t =>
      cases t with
      | nil => exact q.elim
      | cons r2 t =>
        cases t with
        | nil => exact q.elim
        | cons r3 t =>
          cases t with
          | cons _ _ => exact q.elim
          | nil => exact ⟨_, _, _, rfl, fl_nx q ok (((he.set r1).set r2).set r3)⟩
end
end Lf

set_option Elab.async false
set_option linter.all false
set_option maxRecDepth 100000
set_option maxHeartbeats 4000000
/-! len(set(xs)): xs a list of tuples of texts and ints. -/
namespace Lf
open PySem PySem.Spec PyProof.Rows L2

theorem mem_uniq {α : Type} [DecidableEq α] {y : α} : ∀ {xs : List α}, y ∈ uniq xs ↔ y ∈ xs
  | [] => Iff.rfl
  | x :: xs => by
    unfold uniq
    split
    · rename_i h
      rw [mem_uniq (xs := xs), List.mem_cons]
      exact ⟨.inr, fun z => z.elim (fun e => e ▸ h) id⟩
    · rw [List.mem_cons, List.mem_cons, mem_uniq (xs := xs)]
theorem uniq_nodup {α : Type} [DecidableEq α] : ∀ (xs : List α), (uniq xs).Nodup
  | [] => List.nodup_nil
  | x :: xs => by
    unfold uniq
    split
    · exact uniq_nodup xs
    · rename_i h
      exact List.nodup_cons.mpr ⟨fun z => h (mem_uniq.mp z), uniq_nodup xs⟩
theorem uniq_le {α : Type} [DecidableEq α] : ∀ (xs : List α), (uniq xs).length ≤ xs.length
  | [] => Nat.le_refl _
  | x :: xs => by
    have := uniq_le xs
    unfold uniq
    split <;> simp only [List.length_cons] <;> omega
theorem uniq_len {α : Type} [DecidableEq α] : ∀ {xs : List α}, (uniq xs).length = xs.length ↔ xs.Nodup
  | [] => by simp [uniq]
  | x :: xs => by
    have h := uniq_le xs
    have ih := uniq_len (xs := xs)
    unfold uniq
    split
    · rename_i q
      simp only [List.length_cons]
      exact ⟨fun e => by omega, fun e => absurd q (List.nodup_cons.mp e).1⟩
    · rename_i q
      rw [List.nodup_cons]
      simp only [List.length_cons]
      exact ⟨fun e => ⟨q, ih.mp (by omega)⟩, fun e => by rw [ih.mpr e.2]⟩
theorem same_len {α : Type} [DecidableEq α] {xs ys : List α} (n : xs.Nodup) (h : ∀ x, x ∈ xs ↔ x ∈ ys) : xs.length = (uniq ys).length :=
  ((List.perm_ext_iff_of_nodup n (uniq_nodup ys)).mpr fun x => (h x).trans mem_uniq.symm).length_eq

section
variable {P : Program} {w : World} {A : Around} {E : Value → Shared → Prop} {s : Shared}
abbrev TAt (P : Program) (w : World) (h : Heap) (k : List Key) (c : Addr) : Prop := IsTupleKey (mixKind P w) h k c
abbrev tHash (P : Program) (w : World) (k : List Key) : Int := tupleKeyHash (mixKind P w) k
def AtomV (v : Value) : Prop := (∃ i t, v = .int i t) ∨ ∃ x t, v = .str x t
theorem atoms_in {k : List Key} {vs : List Value} (h : ItemsAre (mixKind P w) k vs) : ∀ v ∈ vs, AtomV v := by
  induction h with
  | nil => exact fun v z => nomatch z
  | cons e _ ih =>
    refine List.forall_mem_cons.mpr ⟨?_, ih⟩
    rcases keyIs_shape e with ⟨i, t, _, e⟩ | ⟨x, t, _, e⟩
    · exact .inl ⟨i, t, e⟩
    · exact .inr ⟨x, t, e⟩
theorem AtomV.noStmt {v : Value} (n : Nat) (h : AtomV v) : ofAClassStatement n v = pure false := by
  rcases h with ⟨i, t, rfl⟩ | ⟨x, t, rfl⟩ <;> cases n <;> rfl
theorem AtomV.byV {v : Value} (n : Nat) (h : AtomV v) : ∃ b, hashByValue n v = pure b := by
  rcases h with ⟨i, t, rfl⟩ | ⟨x, t, rfl⟩ <;> cases n <;> exact ⟨_, rfl⟩
/-- a tuple of ours is of no class statement -/
theorem tup_noStmt {k : List Key} {c : Addr} {Q : Bool → Shared → Prop} (h : TAt P w s.heap k c) (q : Q false s) : wpAny (model P w) A (ofAClassStatement 8 (.ref c)) Q E s := by
  have ty := h.typeIs
  obtain ⟨ob, its, z, g, _, dt, ia⟩ := h
  unfold ofAClassStatement
  refine wpAny_bind (wpAny_typeOf ty ?_)
  have e : (("tuple" : String) == "tuple") = true := by decide
  dsimp only
  simp only [e, if_true, Bool.not_true, Bool.false_eq_true, if_false]
  try refine wpAny_bind (wpAny_pure ?_)
  try simp only [Bool.not_true, Bool.false_eq_true, if_false]
  show wpAny _ _ (seqItems? (.ref c) >>= _) _ _ s
  refine wpAny_bind (wpAny_seqItems g dt (wpAny_bind ?_))
  show wpAny _ _ (forIn its _ _) _ _ s
  rw [← Array.forIn_toList]
  refine wpAny_forIn_list _ (fun more b s1 => (b.1 = none ∧ s1 = s) ∧ ∀ v ∈ more, AtomV v) _ (fun v more b s1 x => ?_) (fun b s1 x => ?_) _ _ ⟨⟨rfl, rfl⟩, atoms_in ia⟩
  · obtain ⟨⟨_, rfl⟩, av⟩ := x
    obtain ⟨a0, a1⟩ := List.forall_mem_cons.mp av
    rw [a0.noStmt]
    refine wpAny_bind (wpAny_pure ?_)
    simp only [Bool.false_eq_true, if_false]
    exact wpAny_pure ⟨⟨rfl, rfl⟩, a1⟩
  · obtain ⟨b0, b1⟩ := b
    obtain ⟨⟨e0, rfl⟩, _⟩ := x
    simp only at e0
    subst e0
    exact wpAny_pure q
/-- is its hash one by value: whatever -/
theorem tup_byV {k : List Key} {c : Addr} {Q : Bool → Shared → Prop} (h : TAt P w s.heap k c) (q : ∀ b, Q b s) : wpAny (model P w) A (hashByValue 8 (.ref c)) Q E s := by
  have ty := h.typeIs
  obtain ⟨ob, its, z, g, _, dt, ia⟩ := h
  unfold hashByValue
  refine wpAny_bind (wpAny_specialOf ty F.slot_tuple_hash.lookup ?_)
  show wpAny _ _ (seqItems? (.ref c) >>= _) _ _ s
  refine wpAny_bind (wpAny_seqItems g dt (wpAny_bind ?_))
  show wpAny _ _ (forIn its _ _) _ _ s
  rw [← Array.forIn_toList]
  refine wpAny_forIn_list _ (fun more b s1 => (b.1 = none ∧ s1 = s) ∧ ∀ v ∈ more, AtomV v) _ (fun v more b s1 x => ?_) (fun b s1 x => ?_) _ _ ⟨⟨rfl, rfl⟩, atoms_in ia⟩
  · obtain ⟨⟨_, rfl⟩, av⟩ := x
    obtain ⟨a0, a1⟩ := List.forall_mem_cons.mp av
    obtain ⟨b, eb⟩ := a0.byV 7
    rw [eb]
    refine wpAny_bind (wpAny_pure ?_)
    cases b with
    | true =>
      simp only [Bool.not_true, Bool.false_eq_true, if_false]
      exact wpAny_pure ⟨⟨rfl, rfl⟩, a1⟩
    | false =>
      simp only [Bool.not_false, if_true]
      exact wpAny_pure (wpAny_pure (q false))
  · obtain ⟨b0, b1⟩ := b
    obtain ⟨⟨e0, rfl⟩, _⟩ := x
    simp only at e0
    subst e0
    exact wpAny_pure (q true)
/-- a search among such shows nothing -/
theorem tup_unseen {k : List Key} {c : Addr} {Q : Bool → Shared → Prop} (h : TAt P w s.heap k c) {ys : List Value} (hy : ∀ y ∈ ys, ∃ m d, y = Value.ref d ∧ TAt P w s.heap m d) (q : Q false s) :
    wpAny (model P w) A (searchCouldBeSeen (.ref c) ys) Q E s := by
  unfold searchCouldBeSeen
  refine wpAny_bind (wpAny_forIn_list _ (fun more b s1 => (b.1 = none ∧ s1 = s) ∧ ∀ y ∈ more, ∃ m d, y = Value.ref d ∧ TAt P w s.heap m d) _ (fun v more b s1 x => ?_) (fun b s1 x => ?_) _ _ ⟨⟨rfl, rfl⟩, hy⟩)
  · obtain ⟨⟨_, rfl⟩, av⟩ := x
    obtain ⟨⟨m, d, rfl, hd⟩, a1⟩ := List.forall_mem_cons.mp av
    have on : ∀ {b1 : MProd (Option Bool) PUnit}, b1.1 = none → (b1.1 = none ∧ s1 = s1) ∧ ∀ y ∈ more, ∃ m d, y = Value.ref d ∧ TAt P w s1.heap m d := fun z => ⟨⟨z, rfl⟩, a1⟩
    dsimp only
    by_cases c1 : (c == d || (carriedByValue (.ref c) && carriedByValue (.ref d))) = true
    · exact wp_if_pos c1 (wpAny_pure ⟨⟨rfl, rfl⟩, a1⟩)
    · refine wp_if_neg c1 (wpAny_bind (wpAny_eqIsQuiet_tuple h ?_))
      simp only [Bool.not_true, Bool.false_eq_true, if_false]
      refine wpAny_bind (wpAny_eqIsQuiet_tuple hd ?_)
      simp only [Bool.not_true, Bool.false_eq_true, if_false]
      refine wpAny_bind (tup_noStmt h ?_)
      simp only [Bool.false_eq_true, if_false]
      refine wpAny_bind (tup_noStmt hd ?_)
      simp only [Bool.false_eq_true, if_false]
      exact wpAny_pure ⟨⟨rfl, rfl⟩, a1⟩
  · obtain ⟨b0, b1⟩ := b
    obtain ⟨⟨e0, rfl⟩, _⟩ := x
    simp only at e0
    subst e0
    exact wpAny_pure q
end
end Lf

set_option Elab.async false
set_option linter.all false
set_option maxRecDepth 100000
set_option maxHeartbeats 4000000
/-! Wider tables of sets: up to 512 slots. -/
namespace Lf
open PySem PySem.Spec PyProof.Rows L2

def MaskW (m : Nat) : Prop := m = 7 ∨ m = 31 ∨ m = 127 ∨ m = 511
/-- the round of 5 x + 1: where it stands, what it met -/
def orb (m : Nat) : Nat → Nat × Nat
  | 0 => (0, 0)
  | n + 1 => (((orb m n).1 * 5 + 1) % (m + 1), (orb m n).2 ||| (1 <<< (orb m n).1))
theorem orb_at (m : Nat) : ∀ n, (orb m n).1 = lcgN m n
  | 0 => rfl
  | n + 1 => by
    show ((orb m n).1 * 5 + 1) % (m + 1) = (lcgN m n * 5 + 1) % (m + 1)
    rw [orb_at m n]
theorem orb_met (m j : Nat) : ∀ n, (orb m n).2.testBit j = true → ∃ b, b < n ∧ lcgN m b = j
  | 0, h => by simp [orb] at h
  | n + 1, h => by
    have h : ((orb m n).2 ||| (1 <<< (orb m n).1)).testBit j = true := h
    rw [Nat.testBit_or, Bool.or_eq_true] at h
    rcases h with h | h
    · obtain ⟨b, hb, e⟩ := orb_met m j n h
      exact ⟨b, Nat.lt_succ_of_lt hb, e⟩
    · refine ⟨n, Nat.lt_succ_self n, ?_⟩
      rw [Nat.testBit_shiftLeft, Bool.and_eq_true, decide_eq_true_eq] at h
      obtain ⟨h1, h2⟩ := h
      have : j - (orb m n).1 = 0 := by
        cases q : j - (orb m n).1 with
        | zero => rfl
        | succ k => rw [q] at h2; simp [Nat.testBit_succ] at h2
      rw [← orb_at m n]; omega
theorem orb_all {m : Nat} (h : MaskW m) : orb m (m + 1) = (0, 2 ^ (m + 1) - 1) := by
  rcases h with rfl | rfl | rfl | rfl <;> decide +kernel
theorem MaskW.met {m : Nat} (h : MaskW m) {j : Nat} (hj : j ≤ m) : ∃ b, b ≤ m ∧ lcgN m b = j := by
  have q : (orb m (m + 1)).2.testBit j = true := by
    rw [orb_all h, Nat.testBit_two_pow_sub_one]
    exact decide_eq_true (Nat.lt_succ_of_le hj)
  obtain ⟨b, hb, e⟩ := orb_met m j _ q
  exact ⟨b, Nat.le_of_lt_succ hb, e⟩
theorem MaskW.back {m : Nat} (h : MaskW m) : ∀ k, lcgN m (m + 1 + k) = lcgN m k
  | 0 => by rw [Nat.add_zero, ← orb_at, orb_all h]; rfl
  | k + 1 => by
    show (lcgN m (m + 1 + k) * 5 + 1) % (m + 1) = (lcgN m k * 5 + 1) % (m + 1)
    rw [h.back k]
theorem MaskW.round {m : Nat} (h : MaskW m) {i j : Nat} (hi : i ≤ m) (hj : j ≤ m) : ∃ k, k ≤ m ∧ lcgI m i k = j := by
  obtain ⟨a, a1, rfl⟩ := h.met hi
  obtain ⟨b, b1, rfl⟩ := h.met hj
  by_cases c : a ≤ b
  · exact ⟨b - a, by omega, by rw [lcgN_add, Nat.add_sub_cancel' c]⟩
  · exact ⟨m + 1 + b - a, by omega, by rw [lcgN_add, show a + (m + 1 + b - a) = m + 1 + b by omega, h.back]⟩
theorem MaskW.runs {m : Nat} (hm : MaskW m) (h : Int) {j : Nat} (hj : j ≤ m) : ∃ n, n ≤ m + 12 ∧ runI m (SetTable.bits h) n = j := by
  obtain ⟨k, k1, k2⟩ := hm.round (runI_le m (SetTable.bits h) 12) hj
  exact ⟨12 + k, by omega, by rw [runI_tail (bits_lt h)]; exact k2⟩
theorem MaskW.steps {m : Nat} (hm : MaskW m) (h : Int) {j : Nat} (hj : j ≤ m) : ∃ k, k < 10 * SetTable.turns m ∧ way m h k = j := by
  obtain ⟨n, n1, n2⟩ := hm.runs h hj
  obtain ⟨k, k1, k2⟩ := run_nth m (SetTable.bits h) n
  refine ⟨k, ?_, ?_⟩
  · show k < 10 * (m + 15); omega
  · show (nth m (runAt m (SetTable.bits h % (m + 1)) (SetTable.bits h)) k).j = j
    rw [k2]; exact n2
theorem way_in (m : Nat) (h : Int) (k : Nat) : way m h k ≤ m := by
  have lt : SetTable.bits h % (m + 1) ≤ m := Nat.le_of_lt_succ (Nat.mod_lt _ (Nat.succ_pos m))
  have e := runEnd_bd lt
  have q := nth_in (m := m) k (runAt m (SetTable.bits h % (m + 1)) (SetTable.bits h)) (by
    show SetTable.bits h % (m + 1) + (SetTable.runEnd m (SetTable.bits h % (m + 1)) - SetTable.bits h % (m + 1)) ≤ m
    omega)
  exact Nat.le_trans (Nat.le_add_right _ _) q

/-- a table: each slot is found from its hash -/
structure TabW (t : SetTable) (hs : List Int) : Prop where
  up : Ris t.place.toList
  no : t.dummies = #[]
  eq : t.place.size = hs.length
  msk : MaskW t.mask
  in_ : ∀ x ∈ t.place.toList, x ≤ t.mask
  on : ∀ (i : Nat) (h : Int) (j : Nat), hs[i]? = some h → t.place.toList[i]? = some j → ∃ k, way t.mask h k = j ∧ ∀ d, d < k → way t.mask h d ∈ t.place.toList
theorem MaskW.odd {m : Nat} (h : MaskW m) : m % 2 = 1 := by
  rcases h with rfl | rfl | rfl | rfl <;> rfl
section
variable {t : SetTable} {hs : List Int}
theorem TabW.hole (T : TabW t hs) (hl : hs.length ≤ t.mask) (h : Int) : ∃ K, K < 10 * SetTable.turns t.mask ∧ way t.mask h K ∉ t.place.toList ∧ ∀ k, k < K → way t.mask h k ∈ t.place.toList := by
  obtain ⟨j, j1, j2⟩ := st_missing t.place.toList (t.mask + 1) (by rw [Array.length_toList, T.eq]; omega)
  obtain ⟨k, k1, k2⟩ := T.msk.steps h (Nat.le_of_lt_succ j1)
  obtain ⟨K, a, b, c⟩ := st_least (p := fun k => way t.mask h k ∉ t.place.toList) k (by rw [k2]; exact j2)
  exact ⟨K, Nat.lt_of_le_of_lt a k1, b, fun d hd => Classical.not_not.mp (c d hd)⟩
theorem TabW.ahead (T : TabW t hs) {h : Int} {K i j : Nat} (hK : way t.mask h K ∉ t.place.toList) (hi : hs[i]? = some h) (hj : t.place.toList[i]? = some j) : ∃ k, k < K ∧ way t.mask h k = j := by
  obtain ⟨k, e, b⟩ := T.on i h j hi hj
  refine ⟨k, Nat.lt_of_not_le fun c => ?_, e⟩
  rcases Nat.lt_or_eq_of_le c with c | c
  · exact hK (b K c)
  · rw [c, e] at hK
    exact hK (List.mem_of_getElem? hj)
theorem TabW.insert (T : TabW t hs) {h : Int} {K : Nat} (hK : way t.mask h K ∉ t.place.toList) (hb : ∀ k, k < K → way t.mask h k ∈ t.place.toList) {n : Nat} (hn : n = SetTable.below t.place (way t.mask h K)) :
    (t.put (way t.mask h K)).2 = n ∧ n ≤ hs.length ∧ TabW (t.put (way t.mask h K)).1 (hs.take n ++ h :: hs.drop n) ∧ (t.put (way t.mask h K)).1.mask = t.mask ∧ (t.put (way t.mask h K)).1.fill = hs.length + 1 := by
  subst hn
  have jm := way_in t.mask h K
  generalize hj : way t.mask h K = j at *
  obtain ⟨c1, _, _⟩ := below_cut T.up j
  have nl : SetTable.below t.place j ≤ t.place.toList.length := by rw [Array.length_toList]; exact c1
  have nh : SetTable.below t.place j ≤ hs.length := T.eq ▸ c1
  have new : t.place[SetTable.below t.place j]? ≠ some j := fun e => hK (List.mem_of_getElem? (by rw [Array.getElem?_toList]; exact e))
  have lay := put_place t j
  have r1 : (t.put j).2 = SetTable.below t.place j := rfl
  have r2 : Ris (t.put j).1.place.toList := ris_insert T.up new
  have sz : (t.put j).1.place.size = hs.length + 1 := by
    rw [← Array.length_toList, lay, len_ins _ nl, Array.length_toList, T.eq]
  generalize SetTable.below t.place j = n at *
  have keep : ∀ {x : Nat}, x ∈ t.place.toList → x ∈ (t.put j).1.place.toList := fun hx => by rw [lay]; exact mem_ins.2 (.inr hx)
  refine ⟨r1, nh, { up := r2, no := put_dm T.no j, eq := by rw [len_ins _ nh]; exact sz, msk := T.msk, in_ := fun x hx => ?_, on := fun i g y h1 h2 => ?_ }, rfl, ?_⟩
  · rw [lay] at hx
    exact (mem_ins.1 hx).elim (fun e => e ▸ jm) (T.in_ x)
  · show ∃ k, way t.mask g k = y ∧ ∀ d, d < k → way t.mask g d ∈ (t.put j).1.place.toList
    rw [tins_get hs nh] at h1
    rw [lay, tins_get _ nl] at h2
    rcases Nat.lt_trichotomy i n with c | c | c
    · rw [if_pos c] at h1 h2
      obtain ⟨k, e, z⟩ := T.on i g y h1 h2
      exact ⟨k, e, fun d hd => keep (z d hd)⟩
    · rw [if_neg (by omega), if_pos c] at h1 h2
      cases h1; cases h2
      exact ⟨K, hj, fun d hd => keep (hb d hd)⟩
    · rw [if_neg (by omega), if_neg (by omega)] at h1 h2
      obtain ⟨k, e, z⟩ := T.on (i - 1) g y h1 h2
      exact ⟨k, e, fun d hd => keep (z d hd)⟩
  · show (t.put j).1.place.size + (t.put j).1.dummies.size = _
    rw [sz, put_dm T.no j]; rfl
end

/-! ### laid anew -/
theorem free_at {m : Nat} (hm : MaskW m) (owner : Array (Option Nat)) (h : Int) {j : Nat} (hj : j ≤ m) (hf : oAt owner j = none) :
    ∃ K, SetTable.layClean.free m owner (SetTable.turns m) (SetTable.bits h % (m + 1)) (SetTable.bits h) = some (way m h K) ∧ oAt owner (way m h K) = none ∧ ∀ k, k < K → oAt owner (way m h k) ≠ none := by
  obtain ⟨n, n1, n2⟩ := hm.runs h hj
  have e : way m h (off m (SetTable.bits h % (m + 1)) (SetTable.bits h) n) = j := by
    show (nth m _ (off m _ _ n)).j = j
    rw [nth_off, itL_run]; exact n2
  obtain ⟨K, a, b, c⟩ := st_least (p := fun k => oAt owner (way m h k) = none) _ (show oAt owner (way m h (off m (SetTable.bits h % (m + 1)) (SetTable.bits h) n)) = none by rw [e]; exact hf)
  have some_ : ∀ k, k < K → (oAt owner (way m h k)).isNone = false := fun k hk => by
    cases z : oAt owner (way m h k) with
    | none => exact absurd z (c k hk)
    | some _ => rfl
  exact ⟨K, free_spec m owner (SetTable.turns m) n _ _ K (by show n < m + 15; omega) a some_ (by show (oAt owner (way m h K)).isNone = true; rw [b]; rfl), b, c⟩
theorem own_next {m : Nat} (hm : MaskW m) {done : List Int} {owner : Array (Option Nat)} (W : Own m done owner) (hl : done.length ≤ m) (h : Int) :
    ∃ j, SetTable.layClean.free m owner (SetTable.turns m) (SetTable.bits h % (m + 1)) (SetTable.bits h) = some j ∧ Own m (done ++ [h]) (owner.setIfInBounds j (some done.length)) := by
  obtain ⟨ps, p1, p2⟩ := W.ps
  obtain ⟨j0, a0, b0⟩ := st_missing ps (m + 1) (by omega)
  have f0 : oAt owner j0 = none := Classical.byContradiction fun z => b0 (p2 j0 (Nat.le_of_lt_succ a0) z)
  obtain ⟨K, e1, e2, e3⟩ := free_at hm owner h (Nat.le_of_lt_succ a0) f0
  have wm := way_in m h K
  have ws : way m h K < owner.size := by rw [W.sz]; omega
  have self := oAt_set_self (some done.length) ws
  have still : ∀ {i : Nat}, oAt owner i ≠ none → oAt (owner.setIfInBounds (way m h K) (some done.length)) i ≠ none := fun {i} hi => by
    by_cases c : i = way m h K
    · rw [c, self]; exact nofun
    · rwa [oAt_set_ne _ c]
  refine ⟨_, e1, { sz := by rw [Array.size_setIfInBounds]; exact W.sz, at_ := fun j k hj e => ?_, all := fun k hk => ?_, ps := ⟨way m h K :: ps, by simp [p1], fun j hj e => ?_⟩ }⟩
  · by_cases c : j = way m h K
    · rw [c, self] at e
      cases e
      exact ⟨h, K, by simp, c.symm, fun d hd => still (e3 d hd)⟩
    · rw [oAt_set_ne _ c] at e
      obtain ⟨g, d, q1, q2, q3⟩ := W.at_ j k hj e
      exact ⟨g, d, by rw [List.getElem?_append_left (List.getElem?_eq_some_iff.mp q1).1]; exact q1, q2, fun x hx => still (q3 x hx)⟩
  · rcases Nat.lt_or_ge k done.length with c | c
    · obtain ⟨j, q1, q2⟩ := W.all k c
      exact ⟨j, q1, by rw [oAt_set_ne _ (fun z => by rw [z, e2] at q2; cases q2)]; exact q2⟩
    · have : k = done.length := by rw [List.length_append, List.length_singleton] at hk; omega
      exact ⟨_, wm, this ▸ self⟩
  · by_cases c : j = way m h K
    · exact c ▸ .head _
    · rw [oAt_set_ne _ c] at e
      exact .tail _ (p2 j hj e)
theorem fold_own {m : Nat} (hm : MaskW m) : ∀ (rest done : List Int) (owner : Array (Option Nat)), Own m done owner → done.length + rest.length ≤ m →
    ∃ owner', rest.foldl (stepF m) (some (owner, done.length)) = some (owner', (done ++ rest).length) ∧ Own m (done ++ rest) owner' := by
  intro rest
  induction rest with
  | nil => intro done owner W _; exact ⟨owner, by simp, by simpa using W⟩
  | cons h rest ih =>
    intro done owner W hl
    rw [List.length_cons] at hl
    obtain ⟨j, e, W'⟩ := own_next hm W (by omega) h
    obtain ⟨o2, f, W2⟩ := ih (done ++ [h]) _ W' (by rw [List.length_append, List.length_singleton]; omega)
    have z : done ++ h :: rest = done ++ [h] ++ rest := by simp
    rw [List.length_append, List.length_singleton] at f
    exact ⟨o2, by rw [List.foldl_cons, stepF_some e, z]; exact f, z ▸ W2⟩
theorem lay_own {m : Nat} (hm : MaskW m) {hs : Array Int} (hn : hs.size ≤ m) : ∃ owner, SetTable.layClean m hs = some owner ∧ Own m hs.toList owner := by
  obtain ⟨o, f, W⟩ := fold_own hm hs.toList [] _ (.init m) (by simpa using hn)
  refine ⟨o, ?_, by simpa using W⟩
  rw [layClean_eq, show (0 : Nat) = ([] : List Int).length from rfl, f]; rfl
theorem laid_anew (t : SetTable) {hs : Array Int} {wanted M : Nat} (hw : SetTable.sizeAbove wanted - 1 = M) (hM : MaskW M) (hn : hs.size ≤ M) :
    ∃ t' order, t.relaid hs wanted = some (t', order) ∧ order.toList.Perm (List.range hs.size) ∧ TabW t' (order.toList.map fun i => hs.getD i 0) ∧ t'.mask = M := by
  obtain ⟨o, e, W⟩ := lay_own hM hn
  have ris := ris_live (fun j => o.getD j none) (List.range (M + 1)) (by
    unfold Ris
    first | exact List.pairwise_lt_range | exact List.pairwise_lt_range _)
  have r1 : Ris ((liveOf M o).map (·.1)) := ris.1
  have r2 : ∀ x ∈ (liveOf M o).map (·.1), x ∈ List.range (M + 1) := ris.2
  have live := fun {j k : Nat} => mem_live (j := j) (k := k) W.sz
  have len : (liveOf M o).length = hs.size := by
    obtain ⟨ps, p1, p2⟩ := W.ps
    have up := nat_nodup_len _ ps (r1.imp fun h => Nat.ne_of_lt h) fun x hx => by
      obtain ⟨⟨y, k⟩, hq, rfl⟩ := List.mem_map.mp hx
      obtain ⟨b1, b2⟩ := live.1 hq
      exact p2 y b1 (by rw [b2]; exact nofun)
    have dn := nat_nodup_len (List.range hs.size) ((liveOf M o).map (·.2)) List.nodup_range fun k hk => by
      obtain ⟨j, b1, b2⟩ := W.all k (by rw [Array.length_toList]; exact List.mem_range.mp hk)
      exact List.mem_map.mpr ⟨(j, k), live.2 ⟨b1, b2⟩, rfl⟩
    rw [List.length_map, p1] at up
    have size : hs.toList.length = hs.size := rfl
    rw [List.length_map, List.length_range] at dn
    omega
  refine ⟨tabOf t M o, ((liveOf M o).map (·.2)).toArray, by rw [relaid_eq, hw, e]; rfl, ?_, { up := r1, no := rfl, eq := ?_, msk := hM, in_ := fun x hx => Nat.le_of_lt_succ (List.mem_range.mp (r2 x hx)), on := fun i h j h1 h2 => ?_ }, rfl⟩
  · refine perm_range hs.size _ (by show ((liveOf M o).map (·.2)).length = _; rw [List.length_map, len]) fun k hk => ?_
    obtain ⟨j, b1, b2⟩ := W.all k (by rw [Array.length_toList]; exact hk)
    exact List.mem_map.mpr ⟨(j, k), live.2 ⟨b1, b2⟩, rfl⟩
  · show ((liveOf M o).map (·.1)).toArray.size = (((liveOf M o).map (·.2)).map fun i => hs.getD i 0).length
    simp
  · have h1 : (((liveOf M o).map (·.2)).map fun i => hs.getD i 0)[i]? = some h := h1
    have h2 : ((liveOf M o).map (·.1))[i]? = some j := h2
    rw [List.getElem?_map, Option.map_eq_some_iff] at h2
    obtain ⟨⟨y, k⟩, hq, rfl⟩ := h2
    rw [List.getElem?_map, List.getElem?_map, hq] at h1
    have h1 : hs.getD k 0 = h := Option.some.inj h1
    obtain ⟨b1, b2⟩ := live.1 (List.mem_of_getElem? hq)
    obtain ⟨g, K, a1, a2, a3⟩ := W.at_ y k b1 b2
    have eg : g = h := by
      rw [← h1, Array.getD_eq_getD_getElem?, ← Array.getElem?_toList, a1]; rfl
    subst eg
    refine ⟨K, a2, fun d hd => ?_⟩
    show way M g d ∈ (liveOf M o).map (·.1)
    obtain ⟨c, hc⟩ := Option.ne_none_iff_exists'.mp (a3 d hd)
    exact List.mem_map.mpr ⟨(way M g d, c), live.2 ⟨way_in M g d, hc⟩, rfl⟩
theorem size_308 : SetTable.sizeAbove (SetTable.grown 77) = 512 := by decide +kernel
end Lf

set_option Elab.async false
set_option linter.all false
set_option maxRecDepth 100000
set_option maxHeartbeats 4000000
/-! The search in a set of tuples; putting in. -/
namespace Lf
open PySem PySem.Spec PyProof.Rows L2

abbrev Ent := Addr × List Key
def ents (P : Program) (w : World) (L : List Ent) : List (Int × Value) := L.map fun p => (tHash P w p.2, Value.ref p.1)
/-- the set at c has these, in the table's order -/
structure SetB (P : Program) (w : World) (h : Heap) (c : Addr) (L : List Ent) (es : Array (Int × Value)) (ep : Nat) (t : SetTable) : Prop where
  obj : ∃ o, h.get? c = some o ∧ o.ExactSet ∧ o.data = .set es ep t
  ent : es.toList = ents P w L
  tab : TabW t (L.map fun p => tHash P w p.2)
  one : (L.map (·.2)).Nodup
  tup : ∀ p ∈ L, TAt P w h p.2 p.1
  room : L.length * 5 < t.mask * 3
  few : L.length < 307
/-- the c-th state of a search -/
abbrev stAtN (m : Nat) (h : Int) (c : Nat) : SetTable.Probe := nth m (runAt m (SetTable.bits h % (m + 1)) (SetTable.bits h)) c
theorem st_more (m : Nat) (h : Int) (c q : Nat) : nth m (stAtN m h c) q = stAtN m h (c + q) := (nth_add m c _ q).symm
theorem nth_clear (m : Nat) : ∀ (n : Nat) (p : SetTable.Probe), p.dummy = none → (nth m p n).dummy = none
  | 0, _, h => h
  | n + 1, p, h => nth_clear m n (adv m p) (by unfold adv; split <;> exact h)
theorem ents_len {P : Program} {w : World} {L : List Ent} {es : Array (Int × Value)} (e : es.toList = ents P w L) : es.size = L.length := by
  rw [← Array.length_toList, e]; unfold ents; exact List.length_map ..
theorem ents_at {P : Program} {w : World} {L : List Ent} {es : Array (Int × Value)} (e : es.toList = ents P w L) {i : Nat} {p : Ent} (h : L[i]? = some p) : es[i]? = some (tHash P w p.2, Value.ref p.1) := by
  have : es.toList[i]? = some (tHash P w p.2, Value.ref p.1) := by rw [e]; unfold ents; rw [List.getElem?_map, h]; rfl
  rwa [Array.getElem?_toList] at this
section
variable {P : Program} {w : World} {A : Around} {E : Value → Shared → Prop} {s : Shared} {c : Addr} {L : List Ent} {es : Array (Int × Value)} {ep : Nat} {t : SetTable}
theorem fits_of (e : es.toList = ents P w L) (sz : t.place.size = L.length) (dm : t.dummies = #[]) (lt : L.length ≤ t.mask) : t.fits es.size = true := by
  unfold SetTable.fits SetTable.fill
  rw [dm, ents_len e, sz]
  simp only [beq_self_eq_true, Bool.true_and, decide_eq_true_eq]
  exact lt
theorem SetB.psz (R : SetB P w s.heap c L es ep t) : t.place.size = L.length := R.tab.eq.trans (List.length_map ..)
theorem SetB.fit (R : SetB P w s.heap c L es ep t) : t.fits es.size = true := fits_of R.ent R.psz R.tab.no (by have := R.room; omega)
theorem SetB.noGap (R : SetB P w s.heap c L es ep t) : ¬ t.gaveWay = true := by
  have := R.tab.msk.odd
  unfold SetTable.gaveWay
  simp [this]
theorem same_mem (t : SetTable) : t.sameMemory t.moves t.mask = some true := sameMem t
/-- what is still ahead of the search: where a tuple like the sought one would lie -/
def Ahead (P : Program) (w : World) (L : List Ent) (t : SetTable) (k : List Key) (K c : Nat) : Prop :=
  ∀ (i : Nat) (p : Ent), L[i]? = some p → p.2 = k → ∃ d, c ≤ d ∧ d < K ∧ t.place.toList[i]? = some (way t.mask (tHash P w k) d)
theorem look_from (R : SetB P w s.heap c L es ep t) {x : Addr} {k : List Key} (hx : TAt P w s.heap k x) (hu : A.units < cLine) {K : Nat} (bound : K < 10 * SetTable.turns t.mask)
    (free : way t.mask (tHash P w k) K ∉ t.place.toList) (busy : ∀ d, d < K → way t.mask (tHash P w k) d ∈ t.place.toList) {Q : SetFound → Shared → Prop}
    (yes : k ∈ L.map (·.2) → Q (.there none) s) (no : k ∉ L.map (·.2) → Q (.free (way t.mask (tHash P w k) K) false) s) :
    ∀ (f d : Nat) (stand : Option SetTable.Probe), stand.getD (t.probeStart (tHash P w k)) = stAtN t.mask (tHash P w k) d → d ≤ K → K < f + d → Ahead P w L t k K d →
      wpAny (model P w) A (setSearchFrom c (.ref x) (tHash P w k) true f stand) Q E s := by
  intro f
  induction f with
  | zero => intro d stand _ h1 h2 _; omega
  | succ f ih =>
    intro d stand hst h1 h2 ah
    obtain ⟨ob, g, ex, dt⟩ := R.obj
    have fit := R.fit
    generalize hh : tHash P w k = hk at *
    rw [setSearchFrom_succ]
    refine wpAny_bind (wpAny_setState_of g dt fit ?_)
    dsimp only
    refine wp_if_neg R.noGap ?_
    try refine wpAny_bind (wpAny_pure ?_)
    have clear : (stAtN t.mask hk d).dummy = none := nth_clear _ _ _ rfl
    have jAt : ∀ q, (nth t.mask (stAtN t.mask hk d) q).j = way t.mask hk (d + q) := fun q => congrArg SetTable.Probe.j (st_more _ _ _ _)
    have toK : d + (K - d) = K := by omega
    have hashAt : ∀ (i : Nat) (p : Ent), L[i]? = some p → (fun i => (es[i]?.map (·.1)).getD 0) i = tHash P w p.2 := fun i p hp => by
      dsimp only; rw [ents_at R.ent hp]; rfl
    have word := go_spec t R.tab.up R.tab.no (fun i => (es[i]?.map (·.1)).getD 0) hk (10 * SetTable.turns t.mask) (K - d) _ clear (by omega) (fun q hq => by rw [jAt]; exact busy _ (by omega)) (by rw [jAt, toK]; exact free)
    rw [hst]
    rcases word with ⟨q, i, hq, hi, hash, none_, met⟩ | ⟨none_, met⟩
    case inr =>
      have met' : t.probe (fun i => (es[i]?.map (·.1)).getD 0) hk (stAtN t.mask hk d) = some (.empty (way t.mask hk K) none) := by
        have e := met
        rw [jAt, toK] at e
        exact e
      rw [met']
      dsimp only
      refine wpAny_pure (no fun hm => ?_)
      obtain ⟨p, hp, ek⟩ := List.mem_map.mp hm
      obtain ⟨i, hi⟩ := List.mem_iff_getElem?.mp hp
      obtain ⟨e, e1, e2, e3⟩ := ah i p hi ek
      refine none_ (e - d) i (by omega) (by rw [jAt, Nat.add_sub_cancel' e1, ← hh]; exact e3) ?_
      exact (hashAt i p hi).trans (by rw [ek, hh])
    case inl =>
      have met' : t.probe (fun i => (es[i]?.map (·.1)).getD 0) hk (stAtN t.mask hk d) = some (.candidate (way t.mask hk (d + q)) i (stAtN t.mask hk (d + (q + 1)))) := by
        have e := met
        rw [jAt, st_more] at e
        exact e
      rw [met']
      rw [jAt] at hi
      dsimp only
      have hil : i < L.length := by
        have z := (List.getElem?_eq_some_iff.mp hi).1
        rwa [Array.length_toList, R.psz] at z
      obtain ⟨p, hp⟩ : ∃ p, L[i]? = some p := ⟨_, List.getElem?_eq_getElem hil⟩
      have hm : p ∈ L := List.mem_of_getElem? hp
      have live : t.slot (way t.mask hk (d + q)) = .live i := slot_live R.tab.up hi
      have rest : wpAny (model P w) A (searchRest c (.ref x) hk true f es t (way t.mask hk (d + q)) i (stAtN t.mask hk (d + (q + 1)))) Q E s := by
        unfold searchRest
        rw [ents_at R.ent hp]
        dsimp only
        refine wpAny_bind (wpAny_holding (wpAny_eqBool_tuple hu (R.tup p hm) hx (wpAny_bind (wpAny_setState_of g dt fit ?_))))
        dsimp only
        rcases Decidable.em (p.2 = k) with like | like
        · exact wp_if_pos (by simp [like]) (wpAny_pure (yes (List.mem_map.mpr ⟨p, hm, like⟩)))
        · refine wp_if_neg (by simp [like]) ?_
          try refine wpAny_bind (wpAny_pure ?_)
          rw [same_mem]
          dsimp only
          simp only [if_true, live, ents_at R.ent hp]
          refine wpAny_bind (wpAny_isSame_ref_self (wpAny_bind (wpAny_pure ?_)))
          simp only [if_true]
          refine wp_if_neg (by simp [like]) (ih (d + (q + 1)) _ rfl (by omega) (by omega) fun j r hj hr => ?_)
          obtain ⟨e, e1, e2, e3⟩ := ah j r hj hr
          rw [hh] at e3
          refine ⟨e, ?_, e2, by rw [hh]; exact e3⟩
          rcases Nat.lt_trichotomy e (d + q) with lt | eq | gt
          · refine absurd ?_ (none_ (e - d) j (by omega) (by rw [jAt, Nat.add_sub_cancel' e1]; exact e3))
            exact (hashAt j r hj).trans (by rw [hr, hh])
          · rw [eq] at e3
            have z := slot_live R.tab.up e3
            rw [live] at z
            injection z with z
            rw [← z, hp] at hj
            exact absurd (by rw [Option.some.inj hj]; exact hr) like
          · omega
      cases led : t.led with
      | true =>
        refine wp_if_neg (by simp) ?_
        try refine wpAny_bind (wpAny_pure ?_)
        exact rest
      | false =>
        refine wp_if_pos (by simp) (wpAny_bind (tup_unseen hx (fun y hy => ?_) ?_))
        · obtain ⟨e, he, rfl⟩ := List.mem_map.mp hy
          have he : e ∈ es := by
            have z : e ∈ es ∧ e.1 = hk := by simpa using he
            exact z.1
          have he : e ∈ ents P w L := by rw [← R.ent]; simpa using he
          obtain ⟨r, hr, rfl⟩ := List.mem_map.mp he
          exact ⟨r.2, r.1, rfl, R.tup r hr⟩
        · refine wp_if_neg (by decide) ?_
          try refine wpAny_bind (wpAny_pure ?_)
          exact rest
/-- the search that a putting in makes -/
theorem look (R : SetB P w s.heap c L es ep t) {x : Addr} {k : List Key} (hx : TAt P w s.heap k x) (hu : A.units < cLine) {Q : SetFound → Shared → Prop} (yes : k ∈ L.map (·.2) → Q (.there none) s)
    (no : ∀ K, k ∉ L.map (·.2) → way t.mask (tHash P w k) K ∉ t.place.toList → (∀ d, d < K → way t.mask (tHash P w k) d ∈ t.place.toList) → Q (.free (way t.mask (tHash P w k) K) false) s) :
    wpAny (model P w) A (setSearch c (.ref x) (tHash P w k) true) Q E s := by
  have hl : (L.map fun p => tHash P w p.2).length ≤ t.mask := by
    have := R.room
    rw [List.length_map]; omega
  obtain ⟨K, k1, k2, k3⟩ := R.tab.hole hl (tHash P w k)
  have turns : 10 * SetTable.turns t.mask ≤ 99999 := by
    unfold SetTable.turns
    have := R.tab.msk
    unfold MaskW at this
    omega
  unfold setSearch
  refine look_from R hx hu k1 k2 k3 yes (fun z => no K z k2 k3) 100000 0 none rfl (Nat.zero_le _) (by omega) fun i p hp hk => ?_
  have h1 : (L.map fun p => tHash P w p.2)[i]? = some (tHash P w k) := by rw [List.getElem?_map, hp, ← hk]; rfl
  have h2 : i < t.place.toList.length := by
    rw [Array.length_toList, R.psz]
    exact (List.getElem?_eq_some_iff.mp hp).1
  obtain ⟨d, d1, d2⟩ := R.tab.ahead k2 h1 (List.getElem?_eq_getElem h2)
  exact ⟨d, Nat.zero_le _, d1, by rw [d2]; exact List.getElem?_eq_getElem h2⟩

/-! ### putting in -/
theorem tat_same {h h' : Heap} {k : List Key} {b : Addr} {o : Obj} (x : TAt P w h k b) (g : h.get? c = some o) (dt : o.data = .set es ep t) (sb : Heap.SameBut c h h') : TAt P w h' k b := by
  obtain ⟨u, its, n, hu, q1, q2, q3⟩ := x
  refine ⟨u, its, n, (sb.2 b fun z => ?_).trans hu, q1, q2, q3⟩
  rw [z, g] at hu
  cases hu
  rw [dt] at q2
  cases q2
theorem ents_in (L : List Ent) (n : Nat) (p : Ent) : ents P w (L.take n ++ p :: L.drop n) = (ents P w L).take n ++ (tHash P w p.2, Value.ref p.1) :: (ents P w L).drop n := by
  simp [ents, List.map_take, List.map_drop]
/-- the rows in an order that is told -/
theorem ents_order {hs : List Int} (e : es.toList = ents P w L) {ord : Array Nat} (pm : ord.toList.Perm (List.range L.length)) :
    ∃ L', (ord.filterMap (es[·]?)).toList = ents P w L' ∧ L'.Perm L ∧ (L'.map fun p => tHash P w p.2) = ord.toList.map fun i => (es.map (·.1)).getD i 0 := by
  have step : ∀ l : List Nat, (∀ i ∈ l, i < L.length) → l.filterMap (fun i => es[i]?) = ents P w (l.filterMap fun i => L[i]?) ∧ ((l.filterMap fun i => L[i]?).map fun p => tHash P w p.2) = l.map fun i => (es.map (·.1)).getD i 0 := by
    intro l hl
    induction l with
    | nil => exact ⟨rfl, rfl⟩
    | cons i l ih =>
      obtain ⟨hi, hl⟩ := List.forall_mem_cons.mp hl
      obtain ⟨i1, i2⟩ := ih hl
      have a := List.getElem?_eq_getElem hi
      have b := ents_at e a
      rw [List.filterMap_cons_some b, List.filterMap_cons_some a, i1, List.map_cons, List.map_cons, i2]
      refine ⟨rfl, congrArg (· :: _) ?_⟩
      have z : (es.map (·.1))[i]? = some (tHash P w (L[i]).2) := by rw [Array.getElem?_map, b]; rfl
      rw [Array.getD_eq_getD_getElem?, z]; rfl
  obtain ⟨s1, s2⟩ := step ord.toList fun i hi => List.mem_range.mp (pm.mem_iff.mp hi)
  refine ⟨ord.toList.filterMap fun i => L[i]?, by simpa using s1, ?_, s2⟩
  have all : (List.range L.length).filterMap (fun i => L[i]?) = L := by
    have up : ∀ M : List Ent, ∀ B : List Ent, (List.range' B.length M.length).filterMap (fun i => (B ++ M)[i]?) = M := by
      intro M
      induction M with
      | nil => intro B; rfl
      | cons p M ih =>
        intro B
        rw [List.length_cons, List.range'_succ, List.filterMap_cons_some (b := p) (by simp)]
        have := ih (B ++ [p])
        rw [List.length_append, List.length_singleton, List.append_assoc] at this
        exact congrArg (p :: ·) (by simpa using this)
    have := up L []
    rwa [List.length_nil, List.nil_append, ← List.range_eq_range'] at this
  exact (pm.filterMap _).trans (by rw [all])
/-- laid anew in a wider table -/
theorem wider {o : Obj} {wanted M : Nat} (g : s.heap.get? c = some o) (ex : o.ExactSet) (dt : o.data = .set es ep t) (e : es.toList = ents P w L) (sz : t.place.size = L.length) (dm : t.dummies = #[]) (lt : L.length ≤ t.mask)
    (one : (L.map (·.2)).Nodup) (tup : ∀ p ∈ L, TAt P w s.heap p.2 p.1) (few : L.length < 307) (hw : SetTable.sizeAbove wanted = M + 1) (hM : MaskW M) (room : L.length * 5 < M * 3) {Q : Unit → Shared → Prop}
    (q : ∀ h' L' es' ep' t', Heap.SameBut c s.heap h' → SetB P w h' c L' es' ep' t' → L'.Perm L → Q () { s with heap := h' }) : wpAny (model P w) A (setRelay c wanted) Q E s := by
  have len := ents_len e
  have hM2 : M ≤ 511 := by unfold MaskW at hM; omega
  obtain ⟨t', ord, lay, pm, T, m1⟩ := laid_anew t (hs := es.map (·.1)) (wanted := wanted) (M := M) (by omega) hM (by rw [Array.size_map, len]; omega)
  rw [Array.size_map, len] at pm
  obtain ⟨L', l1, l2, l3⟩ := ents_order (hs := []) e pm
  have len2 := (ents_len l1).trans l2.length_eq
  rw [setRelay_eq]
  refine wpAny_bind (wpAny_setState_of g dt (fits_of e sz dm lt) ?_)
  dsimp only
  refine wp_if_neg (by rw [hw, sizeLine_eq]; omega) ?_
  try refine wpAny_bind (wpAny_pure ?_)
  rw [lay]
  dsimp only
  refine wpAny_bind (wp_if_neg (by rw [len2, len]; simp) ?_)
  try refine wpAny_bind (wpAny_pure ?_)
  refine wpAny_pure ?_
  dsimp only
  refine wpAny_storeSet_of g dt ?_ (by rw [len2, sizeLine_eq]; omega)
  have sb : Heap.SameBut c s.heap (s.heap.update c (Obj.putSet (ord.filterMap (es[·]?)) t')) := .update ..
  refine q _ L' _ _ t' sb { obj := ⟨_, store_at g dt, ⟨ex.1, ex.2.1, ex.2.2⟩, rfl⟩, ent := l1, tab := by rw [l3]; exact T, one := (l2.map _).nodup_iff.mpr one, tup := fun p hp => tat_same (tup p (l2.mem_iff.mp hp)) g dt sb, room := by rw [l2.length_eq, m1]; exact room, few := by rw [l2.length_eq]; exact few } l2
theorem ins_perm {α : Type} (l : List α) (n : Nat) (x : α) : (l.take n ++ x :: l.drop n).Perm (x :: l) := by
  have z : (l.take n ++ x :: l.drop n).Perm (x :: (l.take n ++ l.drop n)) := List.perm_middle
  rwa [List.take_append_drop] at z
theorem putIn (R : SetB P w s.heap c L es ep t) {x : Addr} {k : List Key} (hx : TAt P w s.heap k x) (hu : A.units < cLine) (few : L.length + 1 < 307) {Q : Bool → Shared → Prop}
    (q : ∀ b h' L' es' ep' t', Heap.SameBut c s.heap h' → SetB P w h' c L' es' ep' t' → (k ∈ L.map (·.2) → L' = L) → (k ∉ L.map (·.2) → L'.Perm ((x, k) :: L)) → Q b { s with heap := h' }) :
    wpAny (model P w) A (setAddHashed c (.ref x) (tHash P w k)) Q E s := by
  obtain ⟨ob, g, ex, dt⟩ := R.obj
  have len := ents_len R.ent
  have fit := R.fit
  unfold setAddHashed
  refine wpAny_holding ?_
  rw [show (100000 : Nat) = 99999 + 1 from rfl, setAddHashedIn_succ]
  refine wpAny_bind (wpAny_setState_of g dt fit ?_)
  dsimp only
  refine wp_if_neg (by simp [byScan, Value.scannable]) ?_
  try refine wpAny_bind (wpAny_pure ?_)
  refine wpAny_bind (look R hx hu (fun hm => wpAny_pure (q false s.heap L es ep t (.refl c s.heap) R (fun _ => rfl) fun z => absurd hm z)) fun K hm free busy => ?_)
  dsimp only
  refine wpAny_bind (wpAny_setState_of g dt fit ?_)
  dsimp only
  obtain ⟨q1, q2, q3, q4, q9⟩ := R.tab.insert free busy rfl
  generalize t.put (way t.mask (tHash P w k) K) = pt at q1 q3 q4 q9 ⊢
  obtain ⟨t1, n⟩ := pt
  dsimp only at q1 q3 q4 q9 ⊢
  rw [← q1] at q2 q3
  clear q1
  have ent1 : (SetTable.insertAt es n (tHash P w k, Value.ref x)).toList = ents P w (L.take n ++ (x, k) :: L.drop n) := by rw [SetTable.toList_insertAt, ents_in, R.ent]
  have pm := ins_perm L n (x, k)
  have hs1 : (L.take n ++ (x, k) :: L.drop n).map (fun p => tHash P w p.2) = (L.map fun p => tHash P w p.2).take n ++ tHash P w k :: (L.map fun p => tHash P w p.2).drop n := by
    simp [List.map_take, List.map_drop]
  rw [← hs1] at q3
  generalize L.take n ++ (x, k) :: L.drop n = L1 at ent1 pm q3
  have len1 := ents_len ent1
  have lenL : L1.length = L.length + 1 := pm.length_eq
  have one1 : (L1.map (·.2)).Nodup := (pm.map _).nodup_iff.mpr (by rw [List.map_cons]; exact List.nodup_cons.mpr ⟨hm, R.one⟩)
  generalize SetTable.insertAt es n (tHash P w k, Value.ref x) = es1 at ent1 len1 ⊢
  rw [List.length_map] at q9
  -- whatever is told of its hash
  have on : ∀ t2 : SetTable, t2.place = t1.place → t2.dummies = t1.dummies → t2.mask = t1.mask →
      wpAny (model P w) A (do
        storeSet c es1 t2
        if !false && t2.tooFull then setRelay c (SetTable.grown (es.size + 1))
        return true) Q E s := by
    intro t2 p1 p2 p3
    have T2 : TabW t2 (L1.map fun p => tHash P w p.2) := by
      obtain ⟨a1, a2, a3, a4, a5, a6⟩ := q3
      rw [← p1] at a1 a3 a5 a6
      rw [← p2] at a2
      rw [← p3] at a4 a5 a6
      exact ⟨a1, a2, a3, a4, a5, a6⟩
    have fill2 : t2.fill = L.length + 1 := by
      unfold SetTable.fill at q9 ⊢
      rw [p1, p2]; exact q9
    refine wpAny_bind (wpAny_storeSet_of g dt ?_ (by rw [len1, sizeLine_eq]; omega))
    have sb : Heap.SameBut c s.heap (s.heap.update c (Obj.putSet es1 t2)) := .update ..
    have g1 := store_at (es' := es1) (t' := t2) g dt
    generalize s.heap.update c (Obj.putSet es1 t2) = h1 at sb g1 ⊢
    have tup1 : ∀ p ∈ L1, TAt P w h1 p.2 p.1 := fun p hp => by
      rcases List.mem_cons.mp (pm.mem_iff.mp hp) with rfl | hp
      · exact tat_same hx g dt sb
      · exact tat_same (R.tup p hp) g dt sb
    have room := R.room
    have full : t2.tooFull = decide ((L.length + 1) * 5 ≥ t.mask * 3) := by
      unfold SetTable.tooFull
      rw [fill2, p3, q4]
    rcases Decidable.em ((L.length + 1) * 5 ≥ t.mask * 3) with fl | fl
    · rw [full, decide_eq_true fl]
      have two : (t.mask = 7 ∧ L.length = 4) ∨ (t.mask = 31 ∧ L.length = 18) ∨ (t.mask = 127 ∧ L.length = 76) := by
        rcases R.tab.msk with e | e | e | e <;> rw [e] at fl room
        · exact .inl ⟨e, by omega⟩
        · exact .inr (.inl ⟨e, by omega⟩)
        · exact .inr (.inr ⟨e, by omega⟩)
        · omega
      have go : ∀ M, SetTable.sizeAbove (SetTable.grown (L.length + 1)) = M + 1 → MaskW M → (L.length + 1) * 5 < M * 3 →
          wpAny (model P w) A (setRelay c (SetTable.grown (es.size + 1))) (fun _ s2 => wpAny (model P w) A (pure true) Q E s2) E { s with heap := h1 } := fun M m1 m2 m3 => by
        rw [len]
        refine wider (s := { s with heap := h1 }) g1 ⟨ex.1, ex.2.1, ex.2.2⟩ rfl ent1 (T2.eq.trans (List.length_map ..)) T2.no (by rw [p3, q4, lenL]; omega) one1 tup1 (by rw [lenL]; exact few) m1 m2 (by rw [lenL]; exact m3) fun h' L' es' ep' t' sb' R' pm' => ?_
        exact wpAny_pure (q true h' L' es' ep' t' (sb.trans sb') R' (fun z => absurd z hm) fun _ => pm'.trans pm)
      simp only [Bool.not_false, Bool.and_self, if_true]
      refine wpAny_bind ?_
      rcases two with ⟨_, e⟩ | ⟨_, e⟩ | ⟨_, e⟩
      · exact go 31 (by rw [e, size_20]) (.inr (.inl rfl)) (by omega)
      · exact go 127 (by rw [e, size_76]) (.inr (.inr (.inl rfl))) (by omega)
      · exact go 511 (by rw [e, size_308]) (.inr (.inr (.inr rfl))) (by omega)
    · rw [full, decide_eq_false fl]
      simp only [Bool.not_false, Bool.and_false, Bool.false_eq_true, if_false]
      try refine wpAny_bind (wpAny_pure ?_)
      exact wpAny_pure (q true h1 L1 es1 (ep + 1) t2 sb ⟨⟨_, g1, ⟨ex.1, ex.2.1, ex.2.2⟩, rfl⟩, ent1, T2, one1, tup1, by rw [lenL, p3, q4]; omega, by rw [lenL]; exact few⟩ (fun z => absurd z hm) fun _ => pm)
  cases pl : t1.plain with
  | true =>
    simp only [if_true]
    refine wpAny_bind (tup_byV hx fun b => ?_)
    cases b with
    | true => exact on t1 rfl rfl rfl
    | false => exact on { t1 with plain := false } rfl rfl rfl
  | false =>
    simp only [Bool.false_eq_true, if_false]
    refine wpAny_bind (wpAny_pure ?_)
    exact on t1 rfl rfl rfl
end
end Lf

set_option Elab.async false
set_option linter.all false
set_option maxRecDepth 100000
set_option maxHeartbeats 4000000
/-! set(xs), len(set(xs)). -/
namespace Lf
open PySem PySem.Spec PyProof.Rows L2

/-- the set so far: each of it among the first n, each of these like one of it -/
structure Upto (ks : List Ent) (n : Nat) (L : List Ent) : Prop where
  sub : ∀ p ∈ L, p ∈ ks.take n
  all : ∀ p ∈ ks.take n, p.2 ∈ L.map (·.2)
  le : L.length ≤ n
theorem Upto.next {ks L L' : List Ent} {n : Nat} {p : Ent} (u : Upto ks n L) (e : ks[n]? = some p) (old : p.2 ∈ L.map (·.2) → L' = L) (new : p.2 ∉ L.map (·.2) → L'.Perm (p :: L)) : Upto ks (n + 1) L' := by
  have tk : ks.take (n + 1) = ks.take n ++ [p] := by rw [List.take_succ, e]; rfl
  rcases Classical.em (p.2 ∈ L.map (·.2)) with z | z
  · rw [old z]
    refine ⟨fun r hr => by rw [tk]; exact List.mem_append_left _ (u.sub r hr), fun r hr => ?_, Nat.le_succ_of_le u.le⟩
    rw [tk, List.mem_append, List.mem_singleton] at hr
    exact hr.elim (u.all r) fun h => h ▸ z
  · have pm := new z
    refine ⟨fun r hr => ?_, fun r hr => ?_, by rw [pm.length_eq]; exact Nat.succ_le_succ u.le⟩
    · rw [tk]
      exact (List.mem_cons.mp (pm.mem_iff.mp hr)).elim (fun h => List.mem_append_right _ (List.mem_singleton.mpr h)) fun h => List.mem_append_left _ (u.sub r h)
    · rw [tk, List.mem_append, List.mem_singleton] at hr
      rw [(pm.map _).mem_iff, List.map_cons]
      exact hr.elim (fun h => List.mem_cons_of_mem _ (u.all r h)) fun h => h ▸ List.mem_cons_self
theorem Upto.keys {ks L : List Ent} (u : Upto ks ks.length L) (x : List Key) : x ∈ L.map (·.2) ↔ x ∈ ks.map (·.2) := by
  constructor
  · intro h
    obtain ⟨p, hp, e⟩ := List.mem_map.mp h
    have := u.sub p hp
    rw [List.take_length] at this
    exact List.mem_map.mpr ⟨p, this, e⟩
  · intro h
    obtain ⟨p, hp, e⟩ := List.mem_map.mp h
    exact e ▸ u.all p (by rw [List.take_length]; exact hp)
section
variable {P : Program} {w : World} {A : Around} {E : Value → Shared → Prop} {s : Shared}
theorem TAt.grow {h h' : Heap} {k : List Key} {b : Addr} (x : TAt P w h k b) (up : ∀ b o, h.get? b = some o → h'.get? b = some o) : TAt P w h' k b := by
  obtain ⟨o, its, n, g, r⟩ := x
  exact ⟨o, its, n, up b o g, r⟩
theorem SetB.grow {h h' : Heap} {c : Addr} {L : List Ent} {es : Array (Int × Value)} {ep : Nat} {t : SetTable} (R : SetB P w h c L es ep t) (at_ : ∀ o, h.get? c = some o → h'.get? c = some o) (tup : ∀ p ∈ L, TAt P w h' p.2 p.1) : SetB P w h' c L es ep t :=
  let ⟨o, g, r⟩ := R.obj
  { R with obj := ⟨o, at_ o g, r⟩, tup := tup }
theorem SetB.empty {h : Heap} {c : Addr} {led : Bool} (g : h.get? c = some { cls := .type "set", dict := none, data := .set #[] 0 (.fresh 0 0 led) }) : SetB P w h c [] #[] 0 (.fresh 0 0 led) where
  obj := ⟨_, g, ⟨rfl, rfl, rfl⟩, rfl⟩
  ent := rfl
  tab := { up := .nil, no := rfl, eq := rfl, msk := .inl rfl, in_ := (fun x h => nomatch h), on := (fun i h j e => by simp at e) }
  one := .nil
  tup := fun p h => nomatch h
  room := by show 0 * 5 < 7 * 3; decide
  few := by show 0 < 307; decide
/-- one after another is put in -/
theorem fill_loop {I c : Addr} {fp wr : List Addr} {G : Array GenState → Array GenState → Prop} {n : Nat} {Pv : Nat → Value → Prop} {St : Nat → Shared → Prop} {R : Result → Shared → Prop}
    (W : WalksS P w A.in1 I fp wr G n Pv St) (off : c ∉ fp) (ks : List Ent) (hn : ks.length = n) (few : ks.length < 307) (val : ∀ i v, Pv i v → ∃ p, ks[i]? = some p ∧ v = .ref p.1)
    (h0 : Heap) (hk : ∀ p ∈ ks, TAt P w h0 p.2 p.1) (c0 : h0.get? c = none) (w0 : ∀ b ∈ wr, h0.get? b = none) (hu : A.in1.units < cLine) :
    ∀ (m i : Nat) (s : Shared), i + m = n → St i s → (∀ b o, h0.get? b = some o → s.heap.get? b = some o) → (∃ L es ep t, SetB P w s.heap c L es ep t ∧ Upto ks i L) →
      (∀ s1 L es ep t, Moved (c :: wr) G s s1 → SetB P w s1.heap c L es ep t → Upto ks n L → (∀ b o, h0.get? b = some o → s1.heap.get? b = some o) → R (.ok (.ret .none)) s1) →
      codeAny (model P w) A (.builtin "set.update.loop" ⟨[.ref c, .ref I], []⟩) R s := by
  have cw : c ∉ wr := fun z => off (W.sub _ z)
  have up : ∀ {s s1 : Shared}, Moved wr G s s1 → (∀ b o, h0.get? b = some o → s.heap.get? b = some o) → ∀ b o, h0.get? b = some o → s1.heap.get? b = some o := fun mv k b o e =>
    mv.heap b o (fun z => by rw [w0 b z] at e; cases e) (k b o e)
  have among : ∀ {i : Nat} {L : List Ent} {h : Heap}, Upto ks i L → (∀ b o, h0.get? b = some o → h.get? b = some o) → ∀ p ∈ L, TAt P w h p.2 p.1 := fun u k p hp =>
    (hk p (List.mem_of_mem_take (u.sub p hp))).grow k
  intro m
  induction m with
  | zero =>
    intro i s him st k ⟨L, es, ep, t, B, u⟩ r
    obtain rfl : i = n := him
    refine codeAny_builtin F.entry_set_update_loop ?_
    rw [Around.under_plainId F.plain_set_update_loop _]
    show wpAny _ A.in1 (pyNext (.ref I) >>= _) _ _ s
    refine wpAny_bind (W.done s _ _ st fun s1 mv => ?_)
    show wpAny _ A.in1 (ret Value.none) _ _ s1
    exact wpAny_pure (r s1 L es ep t (mv.mono fun b hb => .tail _ hb) (B.grow (fun o e => mv.heap c o cw e) (among u (up mv k))) u (up mv k))
  | succ m ih =>
    intro i s him st k ⟨L, es, ep, t, B, u⟩ r
    refine codeAny_builtin F.entry_set_update_loop ?_
    rw [Around.under_plainId F.plain_set_update_loop _]
    show wpAny _ A.in1 (pyNext (.ref I) >>= _) _ _ s
    refine wpAny_bind (W.item i s _ _ (by omega) st fun v s1 hv st1 mv => ?_)
    obtain ⟨p, hp, rfl⟩ := val i v hv
    have k1 := up mv k
    have B1 : SetB P w s1.heap c L es ep t := B.grow (fun o e => mv.heap c o cw e) (among u k1)
    have hx : TAt P w s1.heap p.2 p.1 := (hk p (List.mem_of_getElem? hp)).grow k1
    have le := u.le
    show wpAny _ A.in1 (holding [Value.ref p.1] (setAdd c (.ref p.1)) >>= _) _ _ s1
    refine wpAny_bind (wpAny_holding ?_)
    unfold setAdd
    refine wpAny_holding (wpAny_bind (wpAny_pyHash_tuple hu hx ?_))
    refine putIn (s := { s1 with toks := s1.toks + (p.2.length + 1) }) B1 hx hu (by omega) fun b h2 L2 es2 ep2 t2 sb B2 o2 n2 => ?_
    have k2 : ∀ b o, h0.get? b = some o → h2.get? b = some o := fun b o e => (sb.2 b fun z => by rw [z, c0] at e; cases e).trans (k1 b o e)
    have other : ∀ b o, b ≠ c → s1.heap.get? b = some o → h2.get? b = some o := fun b o z e => (sb.2 b z).trans e
    refine wpAny_pure ⟨plainId_quiet F.plain_set_update_loop _, ih (i + 1) _ (by omega) (W.frame _ s1 _ _ st1 (Nat.le_add_right _ _) fun b hb o e => other b o (fun z => off (z ▸ hb)) e) k2 ⟨L2, es2, ep2, t2, B2, u.next hp o2 n2⟩ fun s3 L3 es3 ep3 t3 mv3 B3 u3 k3 => ?_⟩
    exact r s3 L3 es3 ep3 t3 (Moved.trans W.gtrans ((mv.mono fun b hb => .tail _ hb).then_heap (Nat.le_add_right _ _) fun b o hb e => other b o (fun z => hb (z ▸ .head _)) e) mv3) B3 u3 k3
abbrev nuSet (led : Bool) : Obj := { cls := .type "set", dict := none, data := .set #[] 0 (.fresh 0 0 led) }
/-- set(xs) -/
theorem set_of_tups {l : Addr} {items : Array Value} (ks : List Ent) {Q : Value → Shared → Prop} (hh : A.handled = none) (hl : s.heap.IsList l items) (hit : items.toList = ks.map fun p => Value.ref p.1)
    (hk : ∀ p ∈ ks, TAt P w s.heap p.2 p.1) (few : ks.length < 307) (hu : A.units + 3 < cLine)
    (q : ∀ (h' : Heap) (tk : Nat) L es ep t, SetB P w h' s.heap.objs.size L es ep t → Upto ks ks.length L → (∀ b o, s.heap.get? b = some o → h'.get? b = some o) → Q (.ref s.heap.objs.size) { s with heap := h', toks := tk }) :
    wpAny (model P w) A (call (.type "set") [.ref l]) Q E s := by
  have isz : items.size = ks.length := by rw [← Array.length_toList, hit]; exact List.length_map ..
  obtain ⟨ol, hol, hcl, nl, hdl⟩ := id hl
  have lS : l < s.heap.objs.size := Heap.lt_size hol
  have beyond : ∀ b, s.heap.objs.size ≤ b → s.heap.get? b = none := fun b hb => by
    cases z : s.heap.get? b with
    | none => rfl
    | some o => exact absurd (Heap.lt_size z) (Nat.not_lt.mpr hb)
  obtain ⟨fr, tl, hmro⟩ := F.called_set.mro
  have hmade := F.called_set.made
  have hsub := F.called_set.sub
  refine wpAny_call (codeAny_of_tree ?_)
  show wpAny _ _ (callAny (.type "set") _) _ _ _
  refine wpAny_pure ⟨Code.quiet_builtin _ (by decide +kernel), codeAny_builtin F.entry_type_call ?_⟩
  rw [Around.under_plain (weight_type_call_type "set" [.ref l] []) rfl]
  have h1 := F.called_set.notType
  have h2 := F.called_set.canCreate
  have hct := F.typeCall_set_1 (.ref l)
  repeat (any_goals (first | assumption | wp_step))
  generalize hled : (!w.params.followText "set-order") = led at *
  refine codeAny_mono (code_set_led1 (.ref l) (E := E) (Q₁ := fun obj s1 => obj = .ref s.heap.objs.size ∧ s1 = { s with heap := s.heap.push { cls := .type "set", dict := none, data := .set #[] 0 (.fresh 0 0 led) } }) (by rw [hled]; exact ⟨rfl, rfl⟩)) fun r s1 hr => ?_
  match r, hr with
  | .error e, hr => exact hr
  | .ok .next, hr => exact hr.elim
  | .ok .brk, hr => exact hr.elim
  | .ok .cont, hr => exact hr.elim
  | .ok (.ret obj), hr =>
    obtain ⟨rfl, rfl⟩ := hr
    generalize hS0 : ({ cls := .type "set", dict := none, data := .set #[] 0 (.fresh 0 0 led) } : Obj) = so
    have hS : (s.heap.push so).get? s.heap.objs.size = some so := Heap.get?_push_size _ (by rw [← hS0]; rfl)
    have hT : Shared.TypeIs { s with heap := s.heap.push so } (.ref s.heap.objs.size) "set" := ⟨so, hS, by rw [← hS0]⟩
    have hli := F.called_set.init.lookup
    have hbi := F.called_set.init.bind (.ref s.heap.objs.size)
    repeat (any_goals (first | assumption | wp_step))
    refine codeAny_mono (codeAny_call_builtin (R := wants (fun r s2 => r = .none ∧ ∃ h' tk L es ep t, s2 = { s with heap := h', toks := tk } ∧ SetB P w h' s.heap.objs.size L es ep t ∧ Upto ks ks.length L ∧
      ∀ b o, s.heap.get? b = some o → h'.get? b = some o) E) F.called_set.init.plain F.entry_set_init (check_set_init_1 hT ?_)) fun r2 s2 hr2 => ?_
    case refine_2 =>
      match r2, hr2 with
      | .error e, hr2 => exact hr2
      | .ok .next, hr2 => exact hr2.elim
      | .ok .brk, hr2 => exact hr2.elim
      | .ok .cont, hr2 => exact hr2.elim
      | .ok (.ret r), hr2 =>
        obtain ⟨rfl, h', tk, L, es, ep, t, rfl, B, u, k⟩ := hr2
        repeat (any_goals (first | assumption | wp_step))
        exact q _ _ _ _ _ _ B u k
    case refine_1 =>
      subst hS0
      obtain ⟨ocls, odict, odata, oslots⟩ := ol
      simp only at hcl hdl
      subst hcl
      subst hdl
      have hol' : (s.heap.push (nuSet led)).get? l = some { cls := .type "list", dict := odict, data := .seq items nl, slots := oslots } := Heap.get?_push_of_some _ hol
      have hsls := F.sub_list_set
      have hslf := F.sub_list_frozenset
      have hne : (Value.type "list" == Value.type "dict") = false := by decide
      have hl1 : (s.heap.push (nuSet led)).IsList l items := ⟨_, hol', rfl, nl, rfl⟩
      have z1 : (s.heap.push (nuSet led)).objs.size = s.heap.objs.size + 1 := Heap.size_push ..
      have lI : l ≠ (s.heap.push (nuSet led)).objs.size := by rw [z1]; exact Nat.ne_of_lt (Nat.lt_succ_of_lt lS)
      unfold Builtin.«set.__init__» noKeywords Builtin.Frozenset.updateFrom
      generalize hPI : pyIter = PI
      wp_walk
      subst hPI
      refine wpAny_pyIter_list hl1 ?_
      refine wpAny_bind (wpAny_runValue ?_)
      have hh3 : A.in1.in1.in1.handled = none := by simp [hh]
      refine fill_loop ((Walks.list hh3 _ l lI items).toS) (c := s.heap.objs.size) (fun z => by
        rw [z1] at z
        rcases List.mem_cons.mp z with z | z
        · exact absurd z (Nat.ne_of_lt (Nat.lt_succ_self _))
        · exact absurd (List.mem_singleton.mp z) (Nat.ne_of_gt lS)) ks isz.symm few (fun i v hv => ?_) s.heap hk (beyond _ (Nat.le_refl _)) (fun b hb => beyond b (by rw [List.mem_singleton.mp hb, z1]; exact Nat.le_succ _)) hu items.size 0 _ (Nat.zero_add _)
        ⟨⟨_, Heap.get?_push_size _ rfl, rfl, rfl⟩, hl1.push _⟩ (fun b o e => Heap.get?_push_of_some _ (Heap.get?_push_of_some _ e)) ⟨[], #[], 0, .fresh 0 0 led, ?_, ⟨(fun p h => nomatch h), (fun p h => by simp at h), Nat.le_refl _⟩⟩ fun s1 L es ep t mv B u k => ?_
      · have e : items.toList[i]? = some v := by rw [Array.getElem?_toList]; exact hv
        rw [hit, List.getElem?_map, Option.map_eq_some_iff] at e
        obtain ⟨p, e1, e2⟩ := e
        exact ⟨p, e1, e2.symm⟩
      · exact SetB.empty (Heap.get?_push_of_some _ hS)
      · obtain ⟨h', g2, d2, tk2, os2⟩ := s1
        obtain rfl : g2 = s.gens := mv.gens
        obtain rfl : d2 = s.drawn := mv.drawn
        obtain rfl : os2 = s.os := mv.os
        show wpAny _ _ _ _ _ _
        refine wpAny_pure ?_
        show wpAny _ _ (ret Value.none) _ _ _
        rw [isz] at u
        exact wpAny_pure ⟨rfl, h', tk2, L, es, ep, t, rfl, B, u, k⟩
end

/-! ### the rule -/
theorem itemsV {P : Program} {w : World} {k : List Key} {us : List Value} (r : Vals (k.map kV) us) : ItemsAre (mixKind P w) k us := items_are r
section
variable {X : Cx} {er : ER} {C : CallT}
theorem inv_tat {pins : List (Addr × Obj)} {σ : L2.St} {H : Hp} {s : Shared} {b : Addr} {k : List Key} (I : Inv X pins σ H s) (h : SqT X.K H b (k.map kV)) : TAt X.prog X.w s.heap k b := by
  obtain ⟨its, r, ⟨o, g, cl, n, dt⟩, _⟩ := I.tuple h
  exact ⟨o, _, n, g, cl, dt, items_are (by simpa using r)⟩
def tLens (K : PySem.W.Frag) (ta : TE) : TE := fun σ H Q => ta σ H fun x H1 => ∃ (l : Addr) (ks : List Ent), x = V.ref l ∧ SqL K H1 l (ks.map fun p => V.ref p.1) ∧ (∀ p ∈ ks, SqT K H1 p.1 (p.2.map kV)) ∧ ks.length < 307 ∧ Q (.int (uniq (ks.map (·.2))).length) H1
theorem refs_vals : ∀ {ks : List Ent} {us : List Value}, Vals (ks.map fun p => V.ref p.1) us → us = ks.map fun p => Value.ref p.1
  | [], _, .nil => rfl
  | p :: ks, _, .cons (b := u) r t => by
    obtain rfl : u = .ref p.1 := r
    rw [refs_vals t]; rfl
theorem pe_lens {a : Expr} {ta : TE} {p p2 q pos : Pos} (hc : X.calm = true) (hu : X.A.units + 64 < cLine) (hg : Gl X "len") (hm : X.mg "len" = none) (hg2 : Gl X "set") (hm2 : X.mg "set" = none) (ha : PE X a ta)
    (na : starEach [a] X.env = (false, eval a X.env) :: starEach [] X.env) : PE X (.Call (.Name "len" p) [.Call (.Name "set" p2) [a] [] q] [] pos) (tLens X.K ta) := by
  refine ⟨fun pins s σ H Q I h => ?_⟩
  refine Call_ (ld_blt I hg hm PySem.boot_len (PyProof.Rows.callWith_builtin1 (PyProof.Rows.args_cons ?_ rfl) rfl rfl))
  refine Call_ (ld_blt I hg2 hm2 PyProof.Rows.boot_set (PyProof.Rows.callWith_type1 (PyProof.Rows.args_cons ?_ na) na rfl))
  refine thn (ha.run pins s σ H _ I h) fun v s1 ⟨x, H1, I1, r1, l, ks, ex, hl, hk, few, fin⟩ => PyProof.Rows.args_nil ?_
  subst ex
  obtain rfl : v = .ref l := r1
  obtain ⟨its, rv, pl, _⟩ := I1.list hl
  refine set_of_tups ks (I1.ok.hd hc) pl.isList (by simpa using refs_vals rv) (fun p hp => inv_tat I1 (hk p hp)) few (by show X.A.units + 3 < cLine; omega) fun h' tk L es ep t B u k => PyProof.Rows.args_nil ?_
  obtain ⟨o, g, ex, dt⟩ := B.obj
  have n : es.size = (uniq (ks.map (·.2))).length := by rw [ents_len B.ent, ← same_len B.one u.keys]; exact (List.length_map ..).symm
  have few2 := B.few
  have fit : t.fits es.size = true := fits_of B.ent (B.tab.eq.trans (List.length_map ..)) B.tab.no (by have := B.room; omega)
  refine call_len_set g ex dt fit (by rw [ents_len B.ent]; omega) ⟨.int (uniq (ks.map (·.2))).length, H1, (I1.kept (t' := tk) k).tok _, ⟨_, by rw [n]⟩, fin⟩
end
end Lf

set_option Elab.async false
set_option linter.all false
set_option maxRecDepth 100000
set_option maxHeartbeats 4000000
/-! sorted(set(xs)) of texts. -/
namespace Lf
open PySem PySem.Spec PyProof.Rows L2

/-- the text of a row of a set's table -/
def txt (e : Int × Value) : Str := match e.2 with
  | .str x _ => x
  | _ => Str.empty
def IsTx (w : World) (e : Int × Value) : Prop := ∃ x t, e = (hashStr w x, Value.str x t)
/-- the set at c has these texts, in the table's order -/
structure SetX (w : World) (h : Heap) (c : Addr) (es : Array (Int × Value)) (ep : Nat) (t : SetTable) : Prop where
  obj : ∃ o, h.get? c = some o ∧ o.ExactSet ∧ o.data = .set es ep t
  tx : ∀ e ∈ es.toList, IsTx w e
  one : (es.toList.map txt).Nodup
  few : es.size < scanBound
  fit : t.fits es.size = true
  up : Ris t.place.toList
  led : w.params.followText "set-order" = true ∨ t.led = true
section
variable {P : Program} {w : World} {A : Around} {E : Value → Shared → Prop} {s : Shared} {c : Addr} {es : Array (Int × Value)} {ep : Nat} {t : SetTable}
theorem SetX.elems (R : SetX w s.heap c es ep t) : ElemsOf (PySem.strKind P w) es.toList := fun e he => by
  obtain ⟨x, tk, rfl⟩ := R.tx e he
  exact ⟨⟨x, strKind_is P w x tk, rfl⟩, rfl⟩
theorem isTx_is {e : Int × Value} (h : IsTx w e) (x : Str) : (PySem.strKind P w).is x e.2 = true ↔ txt e = x := by
  obtain ⟨y, tk, rfl⟩ := h
  show (Value.isStrOf x (.str y tk)) = true ↔ y = x
  simp [Value.isStrOf]
/-- what is left when the row is laid: the table may be laid anew -/
theorem setX_lay {es1 : Array (Int × Value)} {t1 : SetTable} {o : Obj} (g : s.heap.get? c = some o) (ex : o.ExactSet) (dt : o.data = .set es ep t) (tx : ∀ e ∈ es1.toList, IsTx w e) (one : (es1.toList.map txt).Nodup) (few : es1.size < scanBound) (fit : t1.fits es1.size = true) (up : Ris t1.place.toList)
    (led : w.params.followText "set-order" = true ∨ t1.led = true) {wd : Bool} {f : Bool → Sem Unit} (hf : ∀ (b : Bool) (s1 : Shared) (Q : Unit → Shared → Prop), Q () s1 → wpAny (model P w) A (f b) Q E s1) {Q : Option Bool → Shared → Prop}
    (q : ∀ h' es' ep' t', Heap.SameBut c s.heap h' → SetX w h' c es' ep' t' → es'.toList.Perm es1.toList → Q (some true) { s with heap := h' }) :
    wpAny (model P w) A (do
        storeSet c es1 t1
        if (!wd && t1.tooFull) = true then do
            f (relayAll t1 es1 (SetTable.grown es1.size)).2.2
            storeSet c (relayAll t1 es1 (SetTable.grown es1.size)).1 (relayAll t1 es1 (SetTable.grown es1.size)).2.1
            pure (some true)
          else pure (some true)) Q E s := by
  refine wpAny_bind (wpAny_storeSet_of g dt ?_ (fits_of_scanBound few))
  have g1 := store_at (es' := es1) (t' := t1) g dt
  have sb : Heap.SameBut c s.heap (s.heap.update c (Obj.putSet es1 t1)) := .update ..
  generalize s.heap.update c (Obj.putSet es1 t1) = h1 at g1 sb ⊢
  by_cases full : (!wd && t1.tooFull) = true
  · rw [if_pos full]
    have a1 := relayAll_perm t1 es1 (SetTable.grown es1.size)
    have a2 := relayAll_fits t1 es1 (SetTable.grown es1.size)
    have a3 := relayAll_ris t1 es1 (SetTable.grown es1.size)
    have a4 := relayAll_led t1 es1 (SetTable.grown es1.size)
    generalize relayAll t1 es1 (SetTable.grown es1.size) = Z at a1 a2 a3 a4 ⊢
    obtain ⟨es2, t2, gv⟩ := Z
    dsimp only at a1 a2 a3 a4 ⊢
    have len : es2.size = es1.size := by rw [← Array.length_toList, a1.length_eq, Array.length_toList]
    refine wpAny_bind (hf _ _ _ ?_)
    refine wpAny_bind (wpAny_storeSet_of (s := { s with heap := h1 }) g1 rfl ?_ (fits_of_scanBound (by rw [len]; exact few)))
    have g2 := store_at (es' := es2) (t' := t2) g1 rfl
    have sb2 : Heap.SameBut c h1 (h1.update c (Obj.putSet es2 t2)) := .update ..
    exact wpAny_pure (q _ es2 _ t2 (sb.trans sb2) { obj := ⟨_, g2, ⟨ex.1, ex.2.1, ex.2.2⟩, rfl⟩, tx := fun e he => tx e (a1.mem_iff.mp he), one := (a1.map txt).nodup_iff.mpr one, few := by rw [len]; exact few, fit := a2, up := a3, led := led.imp id fun z => by rw [a4]; exact z } a1)
  · rw [if_neg full]
    exact wpAny_pure (q _ es1 _ t1 sb { obj := ⟨_, g1, ⟨ex.1, ex.2.1, ex.2.2⟩, rfl⟩, tx := tx, one := one, few := few, fit := fit, up := up, led := led } (.refl _))
theorem setX_add (R : SetX w s.heap c es ep t) {x : Str} {tk : Tok} (room : es.size + 1 < scanBound) {Q : Bool → Shared → Prop}
    (q : ∀ b h' es' ep' t', Heap.SameBut c s.heap h' → SetX w h' c es' ep' t' → (x ∈ es.toList.map txt → es' = es) → (x ∉ es.toList.map txt → es'.toList.Perm ((hashStr w x, Value.str x tk) :: es.toList)) → Q b { s with heap := h' }) :
    wpAny (model P w) A (setAddHashed c (.str x tk) (hashStr w x)) Q E s := by
  obtain ⟨o, g, ex, dt⟩ := R.obj
  have key : (PySem.strKind P w).is x (.str x tk) = true := strKind_is P w x tk
  have sc : (Value.str x tk).scannable = true := rfl
  have el := R.elems (P := P)
  show wpAny (model P w) A (setAddHashed c (.str x tk) ((PySem.strKind P w).hash x)) Q E s
  unfold setAddHashed setAddHashedIn
  refine wpAny_holding (wpAny_bind (wpAny_setState_of g dt R.fit ?_))
  dsimp only
  rw [byScan_of sc R.few el]
  simp only [↓reduceIte]
  unfold setAddByScan
  refine wpAny_bind (wpAny_bind (wpAny_rule (wpAny_bind (wpAny_setScan_of key g dt R.fit el ?_))))
  cases fi : es.toList.findIdx? (fun e => (PySem.strKind P w).is x e.2) with
  | some j =>
    dsimp only
    obtain ⟨hj, pj, _⟩ := List.findIdx?_eq_some_iff_getElem.mp fi
    have mem := List.getElem_mem hj
    have hx : x ∈ es.toList.map txt := List.mem_map.mpr ⟨_, mem, (isTx_is (R.tx _ mem) x).mp pj⟩
    exact wpAny_pure (wpAny_pure (q _ s.heap es ep t (.refl c s.heap) R (fun _ => rfl) fun z => absurd hx z))
  | none =>
    dsimp only
    have hx : x ∉ es.toList.map txt := fun z => by
      obtain ⟨e, he, ee⟩ := List.mem_map.mp z
      have no := List.findIdx?_eq_none_iff.mp fi e he
      rw [(isTx_is (R.tx e he) x).mpr ee] at no
      cases no
    have quiet : ∀ (b : Bool) {s1 : Shared} {Q' : Unit → Shared → Prop}, Q' () s1 → wpAny (model P w) A (match b with | true => rule "set.scan.the-table-gave-way" | false => pure ()) Q' E s1 :=
      fun b s1 Q' r => by cases b <;> first | exact wpAny_pure r | exact wpAny_rule r
    have b1 := layNew_perm t es ((PySem.strKind P w).hash x) (.str x tk)
    have b2 := layNew_fits t es ((PySem.strKind P w).hash x) (.str x tk)
    have b3 := layNew_ris t es ((PySem.strKind P w).hash x) (.str x tk) R.up
    have b4 := layNew_led t es ((PySem.strKind P w).hash x) (.str x tk)
    generalize layNew t es ((PySem.strKind P w).hash x) (.str x tk) = Z at b1 b2 b3 b4 ⊢
    obtain ⟨es1, t1, wd, gv⟩ := Z
    dsimp only at b1 b2 b3 b4 ⊢
    rw [Array.toList_push] at b1
    have pm : es1.toList.Perm ((hashStr w x, Value.str x tk) :: es.toList) := b1.trans (List.perm_append_singleton _ _)
    have tx1 : ∀ e ∈ es1.toList, IsTx w e := fun e he => by
      rcases List.mem_cons.mp (pm.mem_iff.mp he) with rfl | z
      · exact ⟨x, tk, rfl⟩
      · exact R.tx e z
    have one1 : (es1.toList.map txt).Nodup := (pm.map txt).nodup_iff.mpr (List.nodup_cons.mpr ⟨hx, R.one⟩)
    have len : es1.size = es.size + 1 := by rw [← Array.length_toList, pm.length_eq, List.length_cons, Array.length_toList]
    have few1 : es1.size < scanBound := by rw [len]; exact room
    have led1 : w.params.followText "set-order" = true ∨ t1.led = true := R.led.imp id fun z => by rw [b4]; exact z
    refine wpAny_bind (quiet _ ?_)
    have fin : ∀ h' es' ep' t', Heap.SameBut c s.heap h' → SetX w h' c es' ep' t' → es'.toList.Perm es1.toList → Q true { s with heap := h' } := fun h' es' ep' t' sb R' p =>
      q true h' es' ep' t' sb R' (fun z => absurd z hx) fun _ => p.trans pm
    split
    · refine wpAny_bind ?_
      rw [hashByValue_scannable 8 sc]
      refine wpAny_pure ?_
      refine setX_lay g ex dt tx1 one1 few1 ?_ ?_ ?_ ?_ ?_
      · first | (split <;> first | exact b2 | exact SetTable.fits_plain_off b2) | exact b2
      · first | (split <;> exact b3) | exact b3
      · first | (split <;> exact led1) | exact led1
      · exact fun b s1 Q' r => quiet b r
      · intro h' es' ep' t' sb R' p; dsimp only; exact wpAny_pure (fin h' es' ep' t' sb R' p)
    · refine wpAny_bind (wpAny_pure ?_)
      simp only [↓reduceIte]
      refine setX_lay g ex dt tx1 one1 few1 b2 b3 led1 ?_ ?_
      · exact fun b s1 Q' r => quiet b r
      · intro h' es' ep' t' sb R' p; dsimp only; exact wpAny_pure (fin h' es' ep' t' sb R' p)
end
end Lf

set_option Elab.async false
set_option linter.all false
set_option maxRecDepth 100000
set_option maxHeartbeats 4000000
/-! set(xs) of texts. -/
namespace Lf
open PySem PySem.Spec PyProof.Rows L2
section
variable {P : Program} {w : World} {A : Around} {E : Value → Shared → Prop} {s : Shared}
/-- the texts of the table are those of the first n -/
structure UptoX (xs : List Str) (n : Nat) (es : Array (Int × Value)) : Prop where
  mem : ∀ x, x ∈ es.toList.map txt ↔ x ∈ xs.take n
  le : es.size ≤ n
theorem UptoX.next {xs : List Str} {n : Nat} {es es' : Array (Int × Value)} {x : Str} {e : Int × Value} (u : UptoX xs n es) (hx : xs[n]? = some x) (et : txt e = x) (old : x ∈ es.toList.map txt → es' = es) (new : x ∉ es.toList.map txt → es'.toList.Perm (e :: es.toList)) : UptoX xs (n + 1) es' := by
  have tk : xs.take (n + 1) = xs.take n ++ [x] := by rw [List.take_succ, hx]; rfl
  rcases Classical.em (x ∈ es.toList.map txt) with z | z
  · rw [old z]
    refine ⟨fun y => ?_, Nat.le_succ_of_le u.le⟩
    rw [tk, List.mem_append, List.mem_singleton, ← u.mem y]
    exact ⟨.inl, fun h => h.elim id fun e => e ▸ z⟩
  · have pm := new z
    refine ⟨fun y => ?_, ?_⟩
    · rw [(pm.map txt).mem_iff, List.map_cons, List.mem_cons, et, u.mem y, tk, List.mem_append, List.mem_singleton]
      exact Or.comm
    · rw [← Array.length_toList, pm.length_eq, List.length_cons, Array.length_toList]
      have := u.le
      omega
theorem SetX.keep {h h' : Heap} {c : Addr} {es : Array (Int × Value)} {ep : Nat} {t : SetTable} (R : SetX w h c es ep t) (k : ∀ o, h.get? c = some o → h'.get? c = some o) : SetX w h' c es ep t :=
  let ⟨o, g, r⟩ := R.obj
  { R with obj := ⟨o, k o g, r⟩ }
theorem SetX.empty {h : Heap} {c : Addr} {led : Bool} (hl : led = !w.params.followText "set-order") (g : h.get? c = some (nuSet led)) : SetX w h c #[] 0 (.fresh 0 0 led) where
  obj := ⟨_, g, ⟨rfl, rfl, rfl⟩, rfl⟩
  tx := fun e h => by simp at h
  one := .nil
  few := by unfold scanBound; show 0 < _; omega
  fit := rfl
  up := .nil
  led := by
    subst hl
    show _ ∨ (!w.params.followText "set-order") = true
    cases w.params.followText "set-order" <;> simp
theorem fill_txt {I c : Addr} {fp wr : List Addr} {G : Array GenState → Array GenState → Prop} {n : Nat} {Pv : Nat → Value → Prop} {St : Nat → Shared → Prop} {R : Result → Shared → Prop}
    (W : WalksS P w A.in1 I fp wr G n Pv St) (off : c ∉ fp) (xs : List Str) (hn : xs.length = n) (few : xs.length < 64) (val : ∀ i v, Pv i v → ∃ x t, xs[i]? = some x ∧ v = .str x t) (h0 : Heap) (c0 : h0.get? c = none) (w0 : ∀ b ∈ wr, h0.get? b = none) :
    ∀ (m i : Nat) (s : Shared), i + m = n → St i s → (∀ b o, h0.get? b = some o → s.heap.get? b = some o) → (∃ es ep t, SetX w s.heap c es ep t ∧ UptoX xs i es) →
      (∀ s1 es ep t, Moved (c :: wr) G s s1 → SetX w s1.heap c es ep t → UptoX xs n es → (∀ b o, h0.get? b = some o → s1.heap.get? b = some o) → R (.ok (.ret .none)) s1) →
      codeAny (model P w) A (.builtin "set.update.loop" ⟨[.ref c, .ref I], []⟩) R s := by
  have cw : c ∉ wr := fun z => off (W.sub _ z)
  have up : ∀ {s s1 : Shared}, Moved wr G s s1 → (∀ b o, h0.get? b = some o → s.heap.get? b = some o) → ∀ b o, h0.get? b = some o → s1.heap.get? b = some o := fun mv k b o e =>
    mv.heap b o (fun z => by rw [w0 b z] at e; cases e) (k b o e)
  intro m
  induction m with
  | zero =>
    intro i s him st k ⟨es, ep, t, B, u⟩ r
    obtain rfl : i = n := him
    refine codeAny_builtin F.entry_set_update_loop ?_
    rw [Around.under_plainId F.plain_set_update_loop _]
    show wpAny _ A.in1 (pyNext (.ref I) >>= _) _ _ s
    refine wpAny_bind (W.done s _ _ st fun s1 mv => ?_)
    show wpAny _ A.in1 (ret Value.none) _ _ s1
    exact wpAny_pure (r s1 es ep t (mv.mono fun b hb => .tail _ hb) (B.keep fun o e => mv.heap c o cw e) u (up mv k))
  | succ m ih =>
    intro i s him st k ⟨es, ep, t, B, u⟩ r
    refine codeAny_builtin F.entry_set_update_loop ?_
    rw [Around.under_plainId F.plain_set_update_loop _]
    show wpAny _ A.in1 (pyNext (.ref I) >>= _) _ _ s
    refine wpAny_bind (W.item i s _ _ (by omega) st fun v s1 hv st1 mv => ?_)
    obtain ⟨x, tk, hp, rfl⟩ := val i v hv
    have k1 := up mv k
    have B1 : SetX w s1.heap c es ep t := B.keep fun o e => mv.heap c o cw e
    have le := u.le
    show wpAny _ A.in1 (holding [Value.str x tk] (setAdd c (.str x tk)) >>= _) _ _ s1
    refine wpAny_bind (wpAny_holding ?_)
    unfold setAdd
    refine wpAny_holding (wpAny_bind ((PySem.strKind P w).pyHash (k := x) (strKind_is P w x tk) ?_))
    refine setX_add (s := { s1 with toks := s1.toks + 1 }) B1 (by unfold scanBound; omega) fun b h2 es2 ep2 t2 sb B2 o2 n2 => ?_
    have k2 : ∀ b o, h0.get? b = some o → h2.get? b = some o := fun b o e => (sb.2 b fun z => by rw [z, c0] at e; cases e).trans (k1 b o e)
    have other : ∀ b o, b ≠ c → s1.heap.get? b = some o → h2.get? b = some o := fun b o z e => (sb.2 b z).trans e
    refine wpAny_pure ⟨plainId_quiet F.plain_set_update_loop _, ih (i + 1) _ (by omega) (W.frame _ s1 _ _ st1 (Nat.le_add_right _ _) fun b hb o e => other b o (fun z => off (z ▸ hb)) e) k2 ⟨es2, ep2, t2, B2, u.next hp rfl o2 n2⟩ fun s3 es3 ep3 t3 mv3 B3 u3 k3 => ?_⟩
    exact r s3 es3 ep3 t3 (Moved.trans W.gtrans ((mv.mono fun b hb => .tail _ hb).then_heap (Nat.le_add_right _ _) fun b o hb e => other b o (fun z => hb (z ▸ .head _)) e) mv3) B3 u3 k3
/-- set(xs) -/
theorem set_of_txts {l : Addr} {items : Array Value} (xs : List Str) {Q : Value → Shared → Prop} (hh : A.handled = none) (hl : s.heap.IsList l items) (hit : ∀ (i : Nat) v, items[i]? = some v → ∃ x t, xs[i]? = some x ∧ v = Value.str x t) (isz : items.size = xs.length)
    (few : xs.length < 64) (q : ∀ (h' : Heap) (tk : Nat) es ep t, SetX w h' s.heap.objs.size es ep t → UptoX xs xs.length es → (∀ b o, s.heap.get? b = some o → h'.get? b = some o) → Q (.ref s.heap.objs.size) { s with heap := h', toks := tk }) :
    wpAny (model P w) A (call (.type "set") [.ref l]) Q E s := by
  obtain ⟨ol, hol, hcl, nl, hdl⟩ := id hl
  have lS : l < s.heap.objs.size := Heap.lt_size hol
  have beyond : ∀ b, s.heap.objs.size ≤ b → s.heap.get? b = none := fun b hb => by
    cases z : s.heap.get? b with
    | none => rfl
    | some o => exact absurd (Heap.lt_size z) (Nat.not_lt.mpr hb)
  obtain ⟨fr, tl, hmro⟩ := F.called_set.mro
  have hmade := F.called_set.made
  have hsub := F.called_set.sub
  refine wpAny_call (codeAny_of_tree ?_)
  show wpAny _ _ (callAny (.type "set") _) _ _ _
  refine wpAny_pure ⟨Code.quiet_builtin _ (by decide +kernel), codeAny_builtin F.entry_type_call ?_⟩
  rw [Around.under_plain (weight_type_call_type "set" [.ref l] []) rfl]
  have h1 := F.called_set.notType
  have h2 := F.called_set.canCreate
  have hct := F.typeCall_set_1 (.ref l)
  repeat (any_goals (first | assumption | wp_step))
  generalize hled : (!w.params.followText "set-order") = led at *
  refine codeAny_mono (code_set_led1 (.ref l) (E := E) (Q₁ := fun obj s1 => obj = .ref s.heap.objs.size ∧ s1 = { s with heap := s.heap.push { cls := .type "set", dict := none, data := .set #[] 0 (.fresh 0 0 led) } }) (by rw [hled]; exact ⟨rfl, rfl⟩)) fun r s1 hr => ?_
  match r, hr with
  | .error e, hr => exact hr
  | .ok .next, hr => exact hr.elim
  | .ok .brk, hr => exact hr.elim
  | .ok .cont, hr => exact hr.elim
  | .ok (.ret obj), hr =>
    obtain ⟨rfl, rfl⟩ := hr
    generalize hS0 : ({ cls := .type "set", dict := none, data := .set #[] 0 (.fresh 0 0 led) } : Obj) = so
    have hS : (s.heap.push so).get? s.heap.objs.size = some so := Heap.get?_push_size _ (by rw [← hS0]; rfl)
    have hT : Shared.TypeIs { s with heap := s.heap.push so } (.ref s.heap.objs.size) "set" := ⟨so, hS, by rw [← hS0]⟩
    have hli := F.called_set.init.lookup
    have hbi := F.called_set.init.bind (.ref s.heap.objs.size)
    repeat (any_goals (first | assumption | wp_step))
    refine codeAny_mono (codeAny_call_builtin (R := wants (fun r s2 => r = .none ∧ ∃ h' tk es ep t, s2 = { s with heap := h', toks := tk } ∧ SetX w h' s.heap.objs.size es ep t ∧ UptoX xs xs.length es ∧
      ∀ b o, s.heap.get? b = some o → h'.get? b = some o) E) F.called_set.init.plain F.entry_set_init (check_set_init_1 hT ?_)) fun r2 s2 hr2 => ?_
    case refine_2 =>
      match r2, hr2 with
      | .error e, hr2 => exact hr2
      | .ok .next, hr2 => exact hr2.elim
      | .ok .brk, hr2 => exact hr2.elim
      | .ok .cont, hr2 => exact hr2.elim
      | .ok (.ret r), hr2 =>
        obtain ⟨rfl, h', tk, es, ep, t, rfl, B, u, k⟩ := hr2
        repeat (any_goals (first | assumption | wp_step))
        exact q _ _ _ _ _ B u k
    case refine_1 =>
      subst hS0
      obtain ⟨ocls, odict, odata, oslots⟩ := ol
      simp only at hcl hdl
      subst hcl
      subst hdl
      have hol' : (s.heap.push (nuSet led)).get? l = some { cls := .type "list", dict := odict, data := .seq items nl, slots := oslots } := Heap.get?_push_of_some _ hol
      have hsls := F.sub_list_set
      have hslf := F.sub_list_frozenset
      have hne : (Value.type "list" == Value.type "dict") = false := by decide
      have hl1 : (s.heap.push (nuSet led)).IsList l items := ⟨_, hol', rfl, nl, rfl⟩
      have z1 : (s.heap.push (nuSet led)).objs.size = s.heap.objs.size + 1 := Heap.size_push ..
      have lI : l ≠ (s.heap.push (nuSet led)).objs.size := by rw [z1]; exact Nat.ne_of_lt (Nat.lt_succ_of_lt lS)
      unfold Builtin.«set.__init__» noKeywords Builtin.Frozenset.updateFrom
      generalize hPI : pyIter = PI
      wp_walk
      subst hPI
      refine wpAny_pyIter_list hl1 ?_
      refine wpAny_bind (wpAny_runValue ?_)
      have hh3 : A.in1.in1.in1.handled = none := by simp [hh]
      refine fill_txt ((Walks.list hh3 _ l lI items).toS) (c := s.heap.objs.size) (fun z => by
        rw [z1] at z
        rcases List.mem_cons.mp z with z | z
        · exact absurd z (Nat.ne_of_lt (Nat.lt_succ_self _))
        · exact absurd (List.mem_singleton.mp z) (Nat.ne_of_gt lS)) xs isz.symm few (fun i v hv => hit i v hv) s.heap (beyond _ (Nat.le_refl _)) (fun b hb => beyond b (by rw [List.mem_singleton.mp hb, z1]; exact Nat.le_succ _)) items.size 0 _ (Nat.zero_add _)
        ⟨⟨_, Heap.get?_push_size _ rfl, rfl, rfl⟩, hl1.push _⟩ (fun b o e => Heap.get?_push_of_some _ (Heap.get?_push_of_some _ e)) ⟨#[], 0, .fresh 0 0 led, ?_, ⟨fun x => by simp, Nat.le_refl _⟩⟩ fun s1 es ep t mv B u k => ?_
      · exact SetX.empty hled.symm (Heap.get?_push_of_some _ hS)
      · obtain ⟨h', g2, d2, tk2, os2⟩ := s1
        obtain rfl : g2 = s.gens := mv.gens
        obtain rfl : d2 = s.drawn := mv.drawn
        obtain rfl : os2 = s.os := mv.os
        show wpAny _ _ _ _ _ _
        refine wpAny_pure ?_
        show wpAny _ _ (ret Value.none) _ _ _
        rw [isz] at u
        exact wpAny_pure ⟨rfl, h', tk2, es, ep, t, rfl, B, u, k⟩
end
end Lf

set_option Elab.async false
set_option linter.all false
set_option maxRecDepth 100000
set_option maxHeartbeats 4000000
/-! sorted(set(xs)): the rule. -/
namespace Lf
open PySem PySem.Spec PyProof.Rows L2
theorem strs_are {K : PySem.W.Frag} {ι : Adr} {H : Hp} : ∀ {xs us bs}, RDs K ι H xs us → asStrs xs = some bs → us = bs.map V.str
  | [], _, _, .nil, e => by cases e; rfl
  | x :: xs, _, _, .cons r t, e => by
    cases r <;> simp only [asStrs] at e <;> try (cases e; done)
    obtain ⟨cs, e2, rfl⟩ := Option.map_eq_some_iff.mp e
    rw [strs_are t e2]; rfl
theorem rd_strs {K : PySem.W.Frag} {ι : Adr} {H : Hp} (zs : List Str) : RDs K ι H (zs.map .str) (zs.map V.str) := by
  induction zs with
  | nil => exact .nil
  | cons z zs ih => exact .cons (.str z) ih
theorem vals_strs : ∀ {zs : List Str} {us : List Value}, Vals (zs.map V.str) us → ∀ (i : Nat) v, us[i]? = some v → ∃ x t, zs[i]? = some x ∧ v = Value.str x t := fun {zs us} r i v e => by
  obtain ⟨u, hu, ru⟩ := vals_at r e
  rw [List.getElem?_map, Option.map_eq_some_iff] at hu
  obtain ⟨x, hx, rfl⟩ := hu
  obtain ⟨t, rfl⟩ := ru
  exact ⟨x, t, hx, rfl⟩
theorem tx_vals {w : World} : ∀ {l : List (Int × Value)}, (∀ e ∈ l, IsTx w e) → Vals ((l.map txt).map V.str) (l.map (·.2))
  | [], _ => .nil
  | e :: l, h => by
    obtain ⟨x, t, rfl⟩ := h e List.mem_cons_self
    exact .cons ⟨t, rfl⟩ (tx_vals fun e he => h e (List.mem_cons_of_mem _ he))
theorem strs_reads {h : Heap} : ∀ {zs : List Str} {vs : List Value}, Vals (zs.map V.str) vs → PySem.W.EachIs (fun v d => ∃ as, Reads h v d as) vs (zs.map PyData.str)
  | [], _, .nil => .nil
  | z :: zs, _, .cons r t => by
    obtain ⟨tk, rfl⟩ := r
    exact .cons ⟨_, .str z tk⟩ (strs_reads t)
theorem strs_alike (zs : List Str) : PySem.W.AllAlike (zs.map PyData.str) := fun d hd e he => by
  obtain ⟨x, _, rfl⟩ := List.mem_map.mp hd
  obtain ⟨y, _, rfl⟩ := List.mem_map.mp he
  simp [PySem.W.alike]
theorem strs_sortable (zs : List Str) : PySem.W.Sortable (zs.map PyData.str) := .inr fun d hd => by
  obtain ⟨x, _, rfl⟩ := List.mem_map.mp hd
  exact ⟨nofun, nofun⟩
/-- the order of data is the order of texts -/
theorem merge_strs (zs : List Str) : (zs.map PyData.str).mergeSort (fun a b => !PySem.W.dataLt b a) = (sortS zs).map PyData.str := by
  have e := PySem.W.sort_maps (r := fun a b : Str => !decide (b.cps.toList < a.cps.toList)) (s := fun a b : PyData => !PySem.W.dataLt b a) PyData.str (l := zs) (fun a _ b _ => by rw [PySem.W.dataLt_str])
  rw [← e]
  have tot : PySem.W.TotalLe (fun a b : Str => !decide (b.cps.toList < a.cps.toList)) := by
    refine ⟨fun a b c h1 h2 => ?_, fun a b => ?_⟩
    · simp only [Bool.not_eq_true', decide_eq_false_iff_not] at *
      exact le_trans_l h1 h2
    · simp only [Bool.not_eq_true', decide_eq_false_iff_not]
      exact (Classical.em (b.cps.toList < a.cps.toList)).symm.imp id fun h z => absurd (List.lt_trans h z) (List.lt_irrefl _)
  have : zs.mergeSort (fun a b : Str => !decide (b.cps.toList < a.cps.toList)) = sortS zs := by
    refine List.Perm.eq_of_pairwise (fun a b _ _ h1 h2 => str_ext (le_anti_l h1 h2)) ?_ (sortS_pw zs) ((List.mergeSort_perm ..).trans (sortS_perm zs).symm)
    exact (PySem.W.sort_pairwise tot zs).imp fun h => by simpa using h
  rw [this]
theorem sortS_same {xs ys : List Str} (p : xs.Perm ys) : sortS xs = sortS ys :=
  List.Perm.eq_of_pairwise (fun a b _ _ h1 h2 => str_ext (le_anti_l h1 h2)) (sortS_pw xs) (sortS_pw ys) ((sortS_perm xs).trans (p.trans (sortS_perm ys).symm))
theorem each_strs : ∀ {zs : List Str} {vs : List Value}, PySem.W.EachIs (fun v d => ∃ u, RelV u v ∧ ∃ x, u = V.str x ∧ d = PyData.str x) vs (zs.map PyData.str) → Vals (zs.map V.str) vs
  | [], _, .nil => .nil
  | z :: zs, _, .cons h t => by
    obtain ⟨u, r, x, rfl, e⟩ := h
    cases e
    exact .cons r (each_strs t)
theorem strs_each : ∀ {zs : List Str} {vs : List Value}, Vals (zs.map V.str) vs → PySem.W.EachIs (fun v d => ∃ u, RelV u v ∧ ∃ x, u = V.str x ∧ d = PyData.str x) vs (zs.map PyData.str)
  | [], _, .nil => .nil
  | z :: zs, _, .cons r t => .cons ⟨_, r, z, rfl, rfl⟩ (strs_each t)
section
variable {P : Program} {w : World} {A : Around} {E : Value → Shared → Prop} {s : Shared} {a : Addr} {es : Array (Int × Value)} {ep : Nat} {t : SetTable}
theorem sorted_txts {Q : Value → Shared → Prop} (R : SetX w s.heap a es ep t) (hh : A.handled = none) (few : es.size < 64) (hu : A.units + 64 < cLine)
    (q : ∀ s' p (out : List Value) (c : Nat), (∀ b o, s.heap.get? b = some o → s'.heap.get? b = some o) → s'.gens = s.gens → s'.os = s.os → s.heap.objs.size ≤ p → s'.heap.get? p = some (seqObj "list" out.toArray c) → Vals ((sortS (es.toList.map txt)).map V.str) out → Q (.ref p) s') :
    wpAny (model P w) A (call (.builtin "sorted") [.ref a]) Q E s := by
  obtain ⟨o, g, ex, dt⟩ := R.obj
  refine Calls.call_function_entry kind_sorted plain_sorted entry_sorted (args_sorted1 _) ?_
  unfold Builtin.«sorted»
  refine wpAny_bind (m := checkCount "sorted" 1 1 _) (wpAny_pure ?_)
  refine wpAny_bind (collect_set (A := A.in1) hh ⟨o, g, ex.1, dt⟩ R.fit R.few R.up R.led fun s1 vs k1 hz g1 o1 pm => ?_)
  have len : vs.length = es.size := by rw [pm.length_eq, List.length_map, Array.length_toList]
  obtain ⟨zs, zv, zp⟩ : ∃ zs : List Str, Vals (zs.map V.str) vs ∧ zs.Perm (es.toList.map txt) := by
    have back : ∀ l : List Value, (∀ v ∈ l, ∃ x tk, v = Value.str x tk) → Vals ((l.map fun v => match v with
        | .str x _ => x
        | _ => Str.empty).map V.str) l := by
      intro l h
      induction l with
      | nil => exact .nil
      | cons v l ih =>
        obtain ⟨x, tk, rfl⟩ := h v List.mem_cons_self
        exact .cons ⟨tk, rfl⟩ (ih fun v hv => h v (List.mem_cons_of_mem _ hv))
    refine ⟨_, back vs fun v hv => ?_, ?_⟩
    · obtain ⟨e, he, rfl⟩ := List.mem_map.mp (pm.mem_iff.mp hv)
      obtain ⟨x, tk, rfl⟩ := R.tx e he
      exact ⟨x, tk, rfl⟩
    · have := pm.map fun v : Value => match v with
        | .str x _ => x
        | _ => Str.empty
      rw [List.map_map] at this
      exact this
  have hz2 : vs.length ≤ sizeLine := by rw [len, sizeLine_eq]; omega
  refine wpAny_bind (wpAny_newList ?_ hz2)
  have hoL : (s1.heap.push (seqObj "list" vs.toArray 0)).get? s1.heap.objs.size = some (seqObj "list" vs.toArray 0) := Heap.get?_push_size _ rfl
  have each : PySem.W.EachIs (fun v d => ∃ as, Reads (PySem.W.sortingHeap (s1.heap.push (seqObj "list" vs.toArray 0)) s1.heap.objs.size vs) v d as) vs (zs.map PyData.str) := strs_reads zv
  have srt := PySem.W.sortVals_each (κ := PySem.W.dataKind (PySem.W.sortingHeap (s1.heap.push (seqObj "list" vs.toArray 0)) s1.heap.objs.size vs) (zs.map PyData.str)) (rev := false) (ks := vs) (bs := zs.map PyData.str) PySem.W.keyToks (strs_each zv)
    ((PySem.W.each_mem each).mono fun v d z => let ⟨⟨as, q⟩, m⟩ := z; PySem.W.dataKind_some (strs_alike zs) m q)
  have srt : PySem.W.EachIs _ _ ((zs.map PyData.str).mergeSort fun a b => !PySem.W.dataLt b a) := srt
  rw [merge_strs] at srt
  have fin := each_strs srt
  refine wpAny_bind (wpAny_holding (wpAny_call_entry PyProof.Rows.slot_list_sort ⟨_, hoL, rfl⟩ PyProof.Rows.entry_list_sort (PySem.W.list_sort_vals (s := { s1 with heap := s1.heap.push (seqObj "list" vs.toArray 0) }) hoL
    (PySem.W.SortsAt.data (s := { s1 with heap := PySem.W.sortingHeap (s1.heap.push (seqObj "list" vs.toArray 0)) s1.heap.objs.size vs }) each (strs_alike zs) (strs_sortable zs) fun d hd => ?_) hz2 ⟨_, rfl, ?_⟩) (PyProof.Rows.args_list_sort _)))
  · obtain ⟨x, _, rfl⟩ := List.mem_map.mp hd
    show A.units + 1 + 1 + PyData.depth (.str x) < cLine
    simp only [PyData.depth]
    omega
  · obtain ⟨c, hc⟩ := PyProof.Rows.sortedHeap_at (vs := vs) (out := (PySem.W.sortVals (PySem.W.dataKind (PySem.W.sortingHeap (s1.heap.push (seqObj "list" vs.toArray 0)) s1.heap.objs.size vs) (zs.map PyData.str)) false vs vs).toArray) hoL
    refine wpAny_pure ⟨_, rfl, q _ s1.heap.objs.size _ c (fun b u e => ?_) g1 o1 hz hc (by rw [sortS_same zp.symm]; exact fin)⟩
    have e := k1 b u e
    have lt := Heap.lt_size e
    show (PyProof.Rows.sortedHeap (s1.heap.push (seqObj "list" vs.toArray 0)) s1.heap.objs.size vs _).get? b = some u
    rw [PyProof.Rows.sortedHeap_old (Nat.ne_of_lt lt) (by rw [size_push']; exact Nat.lt_succ_of_lt lt)]
    exact Heap.get?_push_of_some _ e
end
section
variable {X : Cx} {er : ER} {C : CallT}
def tSset (K : PySem.W.Frag) (ta : TE) : TE := fun σ H Q => ta σ H fun x H1 => ∃ (l : Addr) (xs : List Str), x = V.ref l ∧ SqL K H1 l (xs.map V.str) ∧ xs.length < 64 ∧ ∀ p, H1 p = none → Q (.ref p) (upd H1 p (.lst ((sortS (uniq xs)).map V.str)))
theorem call_sset {pins : List (Addr × Obj)} {σ : L2.St} {H : Hp} {s : Shared} {a : Addr} {es : Array (Int × Value)} {ep : Nat} {t : SetTable} {xs : List Str} {Q : VK} (hc : X.calm = true) (hu : X.A.units + 180 < cLine) (I : Inv X pins σ H s) (B : SetX X.w s.heap a es ep t) (u : UptoX xs xs.length es) (few : xs.length < 64)
    (fin : ∀ p, H p = none → Q (.ref p) (upd H p (.lst ((sortS (uniq xs)).map V.str)))) : wpAny (model X.prog X.w) X.A (call (.builtin "sorted") [.ref a]) (EP X pins σ Q) X.xe s := by
  have pm : (es.toList.map txt).Perm (uniq xs) := (List.perm_ext_iff_of_nodup B.one (uniq_nodup xs)).mpr fun x => by rw [u.mem x, List.take_length, mem_uniq]
  have ule := u.le
  refine sorted_txts B (I.ok.hd hc) (by omega) (by omega) fun s' p out c k2 g2 o2 hp hg vv => ?_
  rw [sortS_same pm] at vv
  have hn : H p = none := I.hok.fresh hp
  have hlen : ((sortS (uniq xs)).map V.str).length ≤ sizeLine := by
    have := uniq_le xs
    rw [List.length_map, (sortS_perm _).length_eq, sizeLine_eq]; omega
  have J : Inv X pins σ (upd H p (.lst ((sortS (uniq xs)).map V.str))) { s with heap := s'.heap, gens := s'.gens, drawn := s'.drawn, toks := s'.toks } :=
    I.call (ch := []) (Un.laid k2 hp hn) (I.hok.laid k2 hp ⟨hlen, out, c, vv, hg⟩) (by rw [g2]; exact I.bare) (fun _ z => nomatch z)
  have e : s' = { s with heap := s'.heap, gens := s'.gens, drawn := s'.drawn, toks := s'.toks } := by
    cases s'
    cases s
    cases o2
    rfl
  rw [e]
  exact ⟨.ref p, _, J, rfl, fin p hn⟩
theorem pe_sset {a : Expr} {ta : TE} {p p2 q pos : Pos} (hc : X.calm = true) (hu : X.A.units + 180 < cLine) (hg : Gl X "sorted") (hm : X.mg "sorted" = none) (hg2 : Gl X "set") (hm2 : X.mg "set" = none) (ha : PE X a ta)
    (na : starEach [a] X.env = (false, eval a X.env) :: starEach [] X.env) : PE X (.Call (.Name "sorted" p) [.Call (.Name "set" p2) [a] [] q] [] pos) (tSset X.K ta) := by
  refine ⟨fun pins s σ H Q I h => ?_⟩
  refine Call_ (ld_blt I hg hm PyProof.Rows.boot_sorted (PyProof.Rows.callWith_builtin1 (PyProof.Rows.args_cons ?_ rfl) rfl rfl))
  refine Call_ (ld_blt I hg2 hm2 PyProof.Rows.boot_set (PyProof.Rows.callWith_type1 (PyProof.Rows.args_cons ?_ na) na rfl))
  refine thn (ha.run pins s σ H _ I h) fun v s1 ⟨x, H1, I1, r1, l, xs, ex, hl, few, fin⟩ => PyProof.Rows.args_nil ?_
  subst ex
  obtain rfl : v = .ref l := r1
  obtain ⟨its, rv, pl, _⟩ := I1.list hl
  have isz : its.toArray.size = xs.length := by rw [List.size_toArray, ← rv.length, List.length_map]
  refine set_of_txts xs (I1.ok.hd hc) pl.isList (fun i v e => vals_strs rv i v (by simpa using e)) isz few fun h' tk es ep t B u k => PyProof.Rows.args_nil ?_
  exact call_sset (s := { s1 with heap := h', toks := tk }) hc hu (I1.kept (t' := tk) k) B u few fin
theorem snd_sset {a : Expr} {x : Ex} {p p2 q pos : Pos} (hu : Sur X) (hg : Gl X "sorted") (hm : X.mg "sorted" = none) (hg2 : Gl X "set") (hm2 : X.mg "set" = none) (ha : snd X er C a x)
    (na : starEach [a] X.env = (false, eval a X.env) :: starEach [] X.env) : snd X er C (.Call (.Name "sorted" p) [.Call (.Name "set" p2) [a] [] q] [] pos) (.sset x) :=
  PE.weak (pe_sset hu.calm hu.un hg hm hg2 hm2 ha na) fun σ H Q ⟨E, S, ι, hE, hS, h⟩ => by
    unfold ev at h
    refine useV hE hS h fun v S1 ι1 H1 u st ok he hu1 q => ?_
    obtain ⟨dx, e2, q⟩ := (Post.bind q).toD ok
    have r2 := hu1.toD ok e2
    obtain ⟨out, e3, w⟩ := fin_out q ok (fun p hp => st.dom p hp) fun _ _ _ _ g => g
    unfold ssetO at e3
    cases dx <;> simp only at e3 <;> try (cases e3; done)
    split at e3
    · rename_i few
      obtain ⟨zs, e4, rfl⟩ := Option.map_eq_some_iff.mp e3
      obtain ⟨a, ys, rfl, hl, ra⟩ := r2.lst
      have ey := strs_are ra e4
      subst ey
      refine ⟨a, zs, rfl, SqL.of hl, ?_, fun p hp => ?_⟩
      · have l := ra.len
        rw [List.length_map] at l
        omega
      · exact w.lst ok (rd_strs _) hp
    · cases e3
end
end Lf

set_option Elab.async false
set_option linter.all false
set_option maxRecDepth 100000
set_option maxHeartbeats 4000000
/-! len(set(xs)), xs[::-1], methods of texts. -/
namespace Lf
open PySem PySem.Spec PyProof.Rows L2

/-! ### len(set(xs)) -/
theorem keyD_of {d : PyData} {k : Key} (e : keyOf d = some k) {K ι H u} (r : RD K ι H d u) : u = kV k := by
  cases d <;> simp only [keyOf] at e <;> try (cases e; done)
  all_goals (cases e; cases r; rfl)
theorem keys_rd {K : PySem.W.Frag} {ι : Adr} {H : Hp} : ∀ {xs : List PyData} {us : List V} {ks : List Key}, RDs K ι H xs us → keysOf xs = some ks → us = ks.map kV
  | _, _, ks, .nil, e => by cases e; rfl
  | x :: xs, u :: us, ks, .cons r t, e => by
    unfold keysOf at e
    split at e
    · rename_i k ks' e1 e2
      cases e
      rw [keyD_of e1 r, keys_rd t e2]; rfl
    · cases e
theorem tks_rd {K : PySem.W.Frag} {ι : Adr} {H : Hp} : ∀ {xs : List PyData} {us : List V} {ks : List (List Key)}, RDs K ι H xs us → tksOf xs = some ks →
    ∃ es : List Ent, us = es.map (fun p => V.ref p.1) ∧ es.map (·.2) = ks ∧ ∀ p ∈ es, SqT K H p.1 (p.2.map kV)
  | _, _, ks, .nil, e => by cases e; exact ⟨[], rfl, rfl, fun p h => nomatch h⟩
  | x :: xs, u :: us, ks, .cons r t, e => by
    cases x <;> simp only [tksOf] at e <;> try (cases e; done)
    split at e
    · rename_i k ks' e1 e2
      cases e
      cases r with
      | tup h n r =>
        rename_i a ys
        obtain ⟨es, h1, h2, h3⟩ := tks_rd t e2
        have z := keys_rd r e1
        refine ⟨(a, k) :: es, by rw [h1]; rfl, by rw [← h2]; rfl, List.forall_mem_cons.mpr ⟨?_, h3⟩⟩
        rw [← z]
        exact SqT.of h
    · cases e
section
variable {X : Cx} {er : ER} {C : CallT} {a o : Expr} {es : List Expr} {x : Ex} {xs : Exs} {pos p p2 q apos : Pos}
theorem snd_lens (hu : Sur X) (hg : Gl X "len") (hm : X.mg "len" = none) (hg2 : Gl X "set") (hm2 : X.mg "set" = none) (ha : snd X er C a x) (na : starEach [a] X.env = (false, eval a X.env) :: starEach [] X.env) :
    snd X er C (.Call (.Name "len" p) [.Call (.Name "set" p2) [a] [] q] [] pos) (.lens x) :=
  PE.weak (pe_lens hu.calm (by have := hu.un; omega) hg hm hg2 hm2 ha na) fun σ H Q ⟨E, S, ι, hE, hS, h⟩ => by
    unfold ev at h
    refine useV hE hS h fun v S1 ι1 H1 u st ok he hv z => ?_
    obtain ⟨d1, e1, z⟩ := (Post.bind z).toD ok
    obtain ⟨n, e2, z⟩ := (Post.bind z).lift ok
    have rc := hv.toD ok e1
    cases d1 <;> simp only [lensO] at e2 <;> try (cases e2; done)
    split at e2
    · rename_i few
      obtain ⟨ks, e3, rfl⟩ := Option.map_eq_some_iff.mp e2
      obtain ⟨l, ys, rfl, hl, r⟩ := rc.lst
      obtain ⟨en, h1, h2, h3⟩ := tks_rd r e3
      subst h1
      refine ⟨l, en, rfl, SqL.of hl, h3, by rw [r.len, List.length_map] at few; exact few, ?_⟩
      rw [h2]
      exact fin_val z ok (fun _ _ _ _ g => g) (.int _)
    · cases e2

/-! ### turned about -/
theorem adj_back (n : Nat) : Builtin.Slice.sliceAdjust none none (-1) (n : Int) = ((n : Int) - 1, -1) := by
  unfold Builtin.Slice.sliceAdjust
  simp
theorem places_back (n : Nat) : Builtin.Slice.slicePlaces ((n : Int) - 1) (-1) (-1) = n := by
  unfold Builtin.Slice.slicePlaces
  rw [if_neg (by decide)]
  by_cases c : (n : Int) - 1 > -1
  · rw [if_pos c]
    have : ((n : Int) - 1 - -1 - 1) / (- -1) = (n : Int) - 1 := by
      rw [show (- -1 : Int) = 1 by decide, Int.ediv_one]; omega
    rw [this]; omega
  · rw [if_neg c]; omega
theorem pick_back (xs : Array Value) : ((List.range xs.size).filterMap fun (k : Nat) => xs[((xs.size : Int) - 1 + (k : Int) * -1).toNat]?).toArray = xs.toList.reverse.toArray := by
  congr 1
  have e : ∀ k ∈ List.range xs.size, xs[((xs.size : Int) - 1 + (k : Int) * -1).toNat]? = some (xs.toList.reverse.getD k .none) := fun k hk => by
    have hk := List.mem_range.mp hk
    have z : ((xs.size : Int) - 1 + (k : Int) * -1).toNat = xs.size - 1 - k := by omega
    have l : k < xs.toList.reverse.length := by simpa using hk
    rw [z, List.getD_eq_getElem?_getD, List.getElem?_eq_getElem l, List.getElem_reverse]
    simp
  have gen : ∀ (f : Nat → Option Value) (g : Nat → Value) (l : List Nat), (∀ k ∈ l, f k = some (g k)) → l.filterMap f = l.map g := by
    intro f g l
    induction l with
    | nil => intro _; rfl
    | cons k l ih =>
      intro h
      rw [List.filterMap_cons_some (h k List.mem_cons_self), ih fun j hj => h j (List.mem_cons_of_mem _ hj)]; rfl
  rw [gen _ _ _ e]
  refine List.ext_getElem (by simp) fun i h1 h2 => ?_
  simp at h1
  simp [List.getD_eq_getElem?_getD, h1]
section
variable {P : Program} {w : World} {A : Around} {E : Value → Shared → Prop} {s : Shared}
theorem back_tup {t sl : Addr} {items : Array Value} {tk : Tok} {Q : Value → Shared → Prop} (ht : IsTup s.heap t items) (hs : s.heap.IsSliceOf sl .none .none (.int (-1) tk)) (hz : items.size ≤ sizeLine)
    (h : Q (.ref s.heap.objs.size) { s with heap := s.heap.push { cls := .type "tuple", data := .seq items.toList.reverse.toArray } }) : wpAny (model P w) A (getItem (.ref t) (.ref sl)) Q E s := by
  have fits : sizeOk (.seq items.toList.reverse.toArray) := by
    show items.toList.reverse.toArray.size ≤ sizeLine
    simpa using hz
  have hT : s.TypeIs (.ref sl) "slice" := let ⟨ob, g, c, _⟩ := hs; ⟨ob, g, c⟩
  unfold getItem
  try with_reducible refine wpAny_holding ?_
  first | refine wpAny_bind (wpAny_pure ?_) | skip
  refine wpAny_bind (wpAny_sequenceKey ht.typeIs (by decide) ?_)
  refine wpAny_bind (wpAny_callSpecial?_slot (name := Str.ofString "__getitem__") ht.typeIs PyProof.Rows.slot_tuple_getitem
    (wpAny_call_entry PyProof.Rows.slot_tuple_getitem ht.typeIs PyProof.Rows.entry_tuple_getitem ?_ (PyProof.Rows.args_tuple_getitem _ _)))
  show wpAny _ _ (Builtin.Tuple.tupleItemsOf (.ref t) >>= _) _ _ s
  obtain ⟨ot, gt, ct, nt, dtt⟩ := ht
  refine wpAny_bind (wpAny_tupleItemsOf gt dtt (wpAny_bind (wpAny_typeOf hT ?_)))
  rw [if_pos (by decide)]
  obtain ⟨ob, g, c, dt⟩ := hs
  refine wpAny_bind ?_
  unfold Builtin.Slice.sliceApplied Builtin.Slice.sliceFields
  refine wpAny_bind (wpAny_bind (wpAny_field g dt (x := .none) rfl (wpAny_bind (wpAny_field g dt (x := .none) rfl (wpAny_bind (wpAny_field g dt (x := .int (-1) tk) rfl (wpAny_pure ?_)))))))
  refine wpAny_bind (PyProof.Rows.slicePart_int ?_)
  show wpAny _ _ (if ((-1 : Int) == 0) = true then _ else _) _ _ s
  rw [if_neg (by decide)]
  refine wpAny_bind (PyProof.Rows.slicePart_none (wpAny_bind (PyProof.Rows.slicePart_none (wpAny_bind (wpAny_pure ?_)))))
  show wpAny _ _ (match Builtin.Slice.sliceAdjust none none (-1) (items.size : Int) with | (lo, hi) => pure (lo, (-1 : Int), Builtin.Slice.slicePlaces lo hi (-1))) _ _ s
  rw [adj_back]
  show wpAny _ _ (pure ((items.size : Int) - 1, (-1 : Int), Builtin.Slice.slicePlaces ((items.size : Int) - 1) (-1) (-1))) _ _ s
  rw [places_back]
  refine wpAny_pure ?_
  have no : ¬ ((((items.size : Int) - 1) == 0 && (-1 : Int) == 1 && items.size == items.size) = true) := by
    have : ((-1 : Int) == 1) = false := by decide
    rw [this]; simp
  show wpAny _ _ (if (((items.size : Int) - 1) == 0 && (-1 : Int) == 1 && items.size == items.size) = true then _ else _) _ _ s
  rw [if_neg no, pick_back]
  first
    | exact wpAny_bind (m := Builtin.Tuple.tupleExact _) (wpAny_newObj_type (wpAny_pure ⟨_, rfl, wpAny_pure h⟩) fits)
    | exact wpAny_bind (m := Builtin.Tuple.tupleExact _) (wpAny_newObj_type (wpAny_bind (wpAny_pure (wpAny_pure ⟨_, rfl, wpAny_pure h⟩))) fits)
    | exact wpAny_bind (wpAny_bind (m := Builtin.Tuple.tupleExact _) (wpAny_newObj_type (wpAny_pure (wpAny_pure ⟨_, rfl, wpAny_pure h⟩)) fits))
    | exact wpAny_bind (wpAny_bind (m := Builtin.Tuple.tupleExact _) (wpAny_newObj_type (wpAny_pure ⟨_, rfl, wpAny_pure h⟩) fits))
end
def tBack (K : PySem.W.Frag) (te : TE) : TE := fun σ H Q => te σ H fun u H1 => ∃ ι S d out, StOk K ι H1 S ∧ RC K ι H1 d u ∧ revO d = some out ∧ Wish K ι H1 out Q
theorem pe_back {te : TE} {k : Nat} {p1 p2 p3 pos : Pos} (ha : PE X a te) : PE X (.Subscript a (.Slice none none (some (.UnaryOp .USub (.Constant (.int 1) k p1) p2)) p3) pos) (tBack X.K te) := by
  refine ⟨fun pins s σ H Q I h => Subscript_ (thn (ha.run pins s σ H _ I h) fun v s1 ⟨u, H1, I1, ru, ι, S, d, out, ok, rc, eo, wish⟩ => ?_)⟩
  have step : PO X (some (.UnaryOp .USub (.Constant (.int 1) k p1) p2)) (tPart (tUn (rU fun i => .int (-i)) (tC (.int 1)))) := po_some (pe_un un_neg pe_int)
  refine wpAny_Slice (thn (po_none.run pins s1 σ H1 (fun l G => l = none ∧ G = H1) I1 ⟨rfl, rfl⟩) ?_)
  rintro vl s2 ⟨l, G2, I2, pl, rfl, rfl⟩
  cases pl
  refine thn (po_none.run pins s2 σ G2 (fun l G => l = none ∧ G = G2) I2 ⟨rfl, rfl⟩) ?_
  rintro vu s3 ⟨l, G3, I3, pu, rfl, rfl⟩
  cases pu
  refine thn (step.run pins s3 σ G3 (fun l G => l = some (-1) ∧ G = G3) I3 ⟨1, rfl, -1, rfl, rfl, rfl⟩) ?_
  rintro vs s4 ⟨l, G4, I4, ps, rfl, rfl⟩
  cases ps
  rename_i tk
  generalize hsl : ({ cls := .type "slice", data := .fields #[Value.none, Value.none, Value.int (-1) tk] } : Obj) = so
  have I5 : Inv X pins σ G4 { s4 with heap := s4.heap.push so } := I4.kept (t' := s4.toks) fun b ob z => Heap.get?_push_of_some _ z
  have isl : (s4.heap.push so).IsSliceOf s4.heap.objs.size .none .none (.int (-1) tk) := by rw [← hsl]; exact Heap.IsSliceOf.new ..
  show wpAny (model X.prog X.w) X.A (subscriptTail a (.Slice none none (some (.UnaryOp .USub (.Constant (.int 1) k p1) p2)) p3) v (.ref s4.heap.objs.size)) (EP X pins σ Q) X.xe { s4 with heap := s4.heap.push so }
  have fresh := I5.hok.fresh (Nat.le_refl _)
  cases d <;> simp only [revO] at eo <;> try (cases eo; done)
  · cases eo
    obtain ⟨l, ys, rfl, hl, r⟩ := rc.lst
    cases ru
    obtain ⟨its, rv, pl, hz⟩ := I5.list (SqL.of hl)
    have z : its.toArray.size ≤ sizeLine := by rw [List.size_toArray, ← rv.length]; exact hz
    refine tail_any (ops := [.ref l, .ref s4.heap.objs.size]) pl.isList.typeIs (PySem.slot_list_getitem.lookup) ?_ (by with_unfolding_all rfl)
    refine wpAny_getItem_list_slice pl.isList isl .none .none (.int _ _) (by decide) ?_ z
    rw [PySem.W.krv_pick]
    refine ⟨.ref _, _, I5.laid (t' := s4.toks) (o := .lst ys.reverse) (fun b ob z => Heap.get?_push_of_some _ z) (Nat.le_refl _) ?_, rfl, wish.lst ok r.reverse fresh⟩
    exact ⟨by rw [List.length_reverse]; exact hz, _, 0, by simpa using rv.reverse, Heap.get?_push_size _ rfl⟩
  · cases eo
    obtain ⟨l, ys, rfl, hl, _, r⟩ := rc.tup
    cases ru
    obtain ⟨its, rv, ht, hz⟩ := I5.tuple (SqT.of hl)
    have z : its.toArray.size ≤ sizeLine := by rw [List.size_toArray, ← rv.length]; exact hz
    refine tail_any (ops := [.ref l, .ref s4.heap.objs.size]) ht.typeIs (PyProof.Rows.slot_tuple_getitem.lookup) ?_ (by with_unfolding_all rfl)
    refine back_tup ht isl z ?_
    refine ⟨.ref _, _, I5.laid (t' := s4.toks) (o := .tup ys.reverse) (fun b ob z => Heap.get?_push_of_some _ z) (Nat.le_refl _) ?_, rfl, wish.tup ok r.reverse fresh⟩
    exact ⟨by rw [List.length_reverse]; exact hz, _, by simpa using rv.reverse, IsTup.new _ _⟩
theorem snd_rev {k : Nat} {p1 p2 p3 pos : Pos} (ha : snd X er C a x) : snd X er C (.Subscript a (.Slice none none (some (.UnaryOp .USub (.Constant (.int 1) k p1) p2)) p3) pos) (.rev x) :=
  PE.weak (pe_back ha) fun σ H Q ⟨E, S, ι, hE, hS, h⟩ => by
    unfold ev at h
    refine useV hE hS h fun v S1 ι1 H1 u st ok he hu z => ?_
    obtain ⟨d, e1, z⟩ := (Post.bind z).toD ok
    obtain ⟨out, e2, w⟩ := fin_out z ok st.dom fun _ _ _ _ g => g
    exact ⟨ι1, S1, d, out, ok, hu.toD ok e1, e2, w⟩

/-! ### methods of texts -/
def rSt (K : PySem.W.Frag) (f : MF) : V → List V → Hp → VK → Prop := fun u us H Q => ∃ (z : Str) (ι : Adr) (S : Store) (ds : List PyData) (out : Out),
  u = .str z ∧ StOk K ι H S ∧ Paired (RC K ι H) ds us ∧ smtO f z ds = some out ∧ Wish K ι H out Q
theorem RDs.strs {K : PySem.W.Frag} {ι : Adr} {H : Hp} : ∀ {xs us bs}, RDs K ι H xs us → asStrs xs = some bs → us = bs.map V.str
  | _, _, bs, .nil, e => by cases e; rfl
  | _, _, bs, .cons (x := x) (xs := xs) r t, e => by
    cases r <;> simp only [asStrs] at e <;> try (cases e; done)
    obtain ⟨cs, e1, rfl⟩ := Option.map_eq_some_iff.mp e
    rw [RDs.strs t e1]; rfl
theorem strs_rd {K : PySem.W.Frag} {ι : Adr} {H : Hp} : ∀ (zs : List Str), RDs K ι H (zs.map .str) (zs.map V.str)
  | [] => .nil
  | z :: zs => .cons (.str z) (strs_rd zs)
theorem st_upper : MtR X "str.upper" (rSt X.K .upper) := by
  intro pins s σ H u us v vs Q I ru rs h
  obtain ⟨z, ι, S, ds, out, rfl, ok, hd, e, w⟩ := h
  cases hd with
  | cons _ _ => simp [smtO] at e
  | nil =>
    simp only [smtO] at e
    split at e
    · rename_i c
      cases e
      have c : z.length ≤ 1000000 := c
      exact mt_upper pins s σ H _ _ v vs Q I ru rs ⟨z, rfl, rfl, by omega, w.d (.str _)⟩
    · cases e
theorem st_join : MtR X "str.join" (rSt X.K .join) := by
  intro pins s σ H u us v vs Q I ru rs h
  obtain ⟨z, ι, S, ds, out, rfl, ok, hd, e, w⟩ := h
  match ds, e with
  | [.list ys], e =>
    obtain ⟨u1, rfl, h1⟩ := pr1 hd
    simp only [smtO, Option.bind_eq_some_iff] at e
    obtain ⟨zs, e1, e2⟩ := e
    split at e2
    · rename_i c
      cases e2
      have c : (zs.map (·.length)).sum + zs.length * z.length ≤ 1000000 := c
      obtain ⟨a, ws, rfl, ha, ra⟩ := h1.lst
      refine mt_join pins s σ H _ _ v vs Q I ru rs ⟨z, a, zs, rfl, rfl, .inl ?_, by omega, w.d (.str _)⟩
      rw [← ra.strs e1]; exact SqL.of ha
    · cases e2
  | [.tuple ys], e =>
    obtain ⟨u1, rfl, h1⟩ := pr1 hd
    simp only [smtO, Option.bind_eq_some_iff] at e
    obtain ⟨zs, e1, e2⟩ := e
    split at e2
    · rename_i c
      cases e2
      have c : (zs.map (·.length)).sum + zs.length * z.length ≤ 1000000 := c
      obtain ⟨a, ws, rfl, ha, _, ra⟩ := h1.tup
      refine mt_join pins s σ H _ _ v vs Q I ru rs ⟨z, a, zs, rfl, rfl, .inr ?_, by omega, w.d (.str _)⟩
      rw [← ra.strs e1]; exact SqT.of ha
    · cases e2
theorem st_split : MtR X "str.split" (rSt X.K .split) := by
  intro pins s σ H u us v vs Q I ru rs h
  obtain ⟨z, ι, S, ds, out, rfl, ok, hd, e, w⟩ := h
  have ll : (1000000 : Nat) + 2 ≤ sizeLine := by rw [sizeLine_eq]; decide
  match ds, e with
  | [], e =>
    cases hd
    simp only [smtO] at e
    split at e
    · rename_i c
      cases e
      have c : z.length ≤ 1000000 := c
      exact mt_words pins s σ H _ _ v vs Q I ru rs ⟨z, rfl, rfl, by omega, fun p hp => w.lst ok (strs_rd _) hp⟩
    · cases e
  | [.str y], e =>
    obtain ⟨u1, rfl, h1⟩ := pr1 hd
    cases h1.str
    simp only [smtO] at e
    split at e
    · rename_i c
      cases e
      have c2 : z.length ≤ 1000000 := c.2
      exact mt_split pins s σ H _ _ v vs Q I ru rs ⟨z, y, rfl, rfl, by simpa using c.1, by omega, fun p hp => w.lst ok (strs_rd _) hp⟩
    · cases e
theorem snd_smt {f : MF} {n : Str} {id : String} (hm : MtR X id (rSt X.K f)) (slot : Slot "str" n id) (hty : typeOf (.builtin id) = pure (.type "method_descriptor")) (ho : snd X er C o x) (ha : sndVs X er C (a :: es) xs)
    (hbase : attributeBase o n X.env (eval o X.env) = eval o X.env)
    (hfew : ((backTo pos (starEach (a :: es) X.env)).all (fun x => !x.1) && (backToKw pos (keywordEach [] X.env)).all (fun x => x.1.isSome)
      && decide ((a :: es).length + ([] : List Keyword).length + (if ([] : List Keyword).isEmpty then 0 else 1) < 30)) = true)
    (hline : (apos.endLine == pos.line) = true) (hs : starEach (a :: es) X.env = (false, eval a X.env) :: starEach es X.env) (hplain : (backTo pos (starEach es X.env)).any (·.1) = false) :
    snd X er C (.Call (.Attribute o n apos) (a :: es) [] pos) (.smt f x xs) :=
  PE.weak (pe_bm PySem.F.plainAttrs_str slot hty hm ho ha hbase hfew hline hs hplain) fun σ H Q ⟨E, S, ι, hE, hS, h⟩ => by
    unfold ev at h
    refine useD hE hS h fun d S1 ι1 H1 u st ok he hu z => ?_
    cases d <;> try exact z.elim
    cases hu
    refine ⟨rfl, useVs he ok z fun vs S2 ι2 H2 us st2 ok2 he2 hu2 z => ?_⟩
    obtain ⟨ds, hd, z⟩ := toDs_rc ok2 hu2 z
    obtain ⟨out, e3, w⟩ := fin_out z ok2 (fun p hp => st.dom p (st2.dom p hp)) fun _ _ _ _ g => g
    exact ⟨_, ι2, S2, ds, out, rfl, ok2, hd, e3, w⟩
theorem snd_smt0 {f : MF} {n : Str} {id : String} (hm : MtR X id (rSt X.K f)) (slot : Slot "str" n id) (hty : typeOf (.builtin id) = pure (.type "method_descriptor")) (ho : snd X er C o x)
    (hbase : attributeBase o n X.env (eval o X.env) = eval o X.env) (hline : (apos.endLine == pos.line) = true) :
    snd X er C (.Call (.Attribute o n apos) [] [] pos) (.smt f x .nil) :=
  PE.weak (pe_bm0 PySem.F.plainAttrs_str slot hty hm ho hbase hline) fun σ H Q ⟨E, S, ι, hE, hS, h⟩ => by
    unfold ev at h
    refine useD hE hS h fun d S1 ι1 H1 u st ok he hu z => ?_
    cases d <;> try exact z.elim
    cases hu
    rename_i zs
    unfold evs at z
    obtain ⟨ds, hd, z⟩ := toDs_rc (vs := []) (us := []) (f := fun ds => M.lift (smtO f zs ds)) ok .nil z
    obtain ⟨out, e3, w⟩ := fin_out z ok st.dom fun _ _ _ _ g => g
    exact ⟨rfl, _, ι1, S1, ds, out, rfl, ok, hd, e3, w⟩
end
end Lf

set_option Elab.async false
set_option linter.all false
set_option maxRecDepth 100000
set_option maxHeartbeats 4000000
/-! a, *b = t; x in T of a name that all see. -/
namespace Lf
open PySem PySem.Spec PyProof.Rows L2
section
variable {P : Program} {w : World} {A : Around} {E : Value → Shared → Prop} {s : Shared}
/-- the rest of a tuple, walked from the i-th item on -/
theorem walk_rest (hh : A.handled = none) (I ax : Addr) (hne : ax ≠ I) (items : Array Value) (i : Nat) (hi : i ≤ items.size) :
    WalksS P w A I [I, ax] [I] (fun a b => a = b) (items.size - i) (fun j v => items[i + j]? = some v) (fun j s => s.heap.IsTupleIter I ax (i + j) ∧ s.heap.IsTuple ax items) := by
  have W := (Walks.tuple (prog := P) (w := w) hh I ax hne items).toS
  exact
    { sub := W.sub
      grefl := fun _ => rfl
      gtrans := fun _ _ _ h g => h.trans g
      frame := fun j s h' tk st l k => ⟨st.1.at fun o e => k I (by simp) o e, st.2.at fun o e => k ax (by simp) o e⟩
      item := fun j s Q E' hj st hQ => by
        have lt : i + j < items.size := by omega
        refine wpAny_pyNext_tuple_item st.1 st.2 (x := items[i + j]) (by simp [lt]) fun h' hit hs => ?_
        exact hQ _ { s with heap := h' } (by simp [lt]) ⟨hit, st.2.extBut hs.extBut hne⟩ ⟨fun b o hb e => hs.extBut b o (fun h => hb (by simp [h])) e, rfl, rfl, rfl, Nat.le_refl _⟩
      done := fun s Q E' st hQ => by
        refine wpAny_pyNext_tuple_end hh st.1 st.2 (by simp; omega) fun h' he => hQ { s with heap := h' } ⟨fun b o hb e => he b o (fun h => hb (by simp [h])) e, rfl, rfl, rfl, Nat.le_refl _⟩
      self := fun j s Q E' st hQ => wpAny_pyIter_tupleiter st.1 hQ }
/-- a, *b of a tuple of one at least -/
theorem unpack_star {t : Addr} {items : Array Value} {x : Value} {rest : List Value} {Q : List Value → Shared → Prop} (hh : A.handled = none) (ht : IsTup s.heap t items) (e : items.toList = x :: rest) (hz : items.size ≤ sizeLine)
    (hQ : ∀ (h2 : Heap) (tk : Nat), (∀ b o, s.heap.get? b = some o → h2.get? b = some o) → Q [x, .ref h2.objs.size] { s with heap := h2.push { cls := .type "list", data := .seq rest.toArray }, toks := tk }) :
    wpAny (model P w) A (unpackItems (.ref t) 2 (some 1)) Q E s := by
  have lt : t < s.heap.objs.size := let ⟨o, g, _⟩ := ht; Heap.lt_size g
  have ne : t ≠ s.heap.objs.size := Nat.ne_of_lt lt
  have n0 : 1 ≤ items.size := by rw [← Array.length_toList, e]; simp
  have rl : items.size - 1 = rest.length := by rw [← Array.length_toList, e]; simp
  unfold unpackItems
  refine wpAny_bind ?_
  unfold notIterableAtAll
  refine wpAny_bind (wpAny_specialOf ht.typeIs slot_tuple_iter.lookup (wpAny_pure ?_))
  simp only [Bool.false_eq_true, if_false]
  refine wpAny_bind (wpAny_holding (iter_tuple ht ?_))
  refine wpAny_bind (wpAny_holding (draw_tuple ne 1 0 _ _ ⟨_, Heap.get?_push_size _ rfl, rfl, rfl⟩ (ht.push _) (by omega) fun h1 it1 sb1 => ?_))
  have one : List.take 1 (List.drop 0 items.toList) = [x] := by rw [e]; rfl
  rw [one]
  refine wp_if_neg (by simp) ?_
  have old1 : ∀ b o, s.heap.get? b = some o → h1.get? b = some o := fun b o g => (sb1.2 b (Nat.ne_of_lt (Heap.lt_size g))).trans (Heap.get?_push_of_some _ g)
  have ht1 : h1.IsTuple t items := (ht.push _).extBut sb1.extBut ne
  have it1 : h1.IsTupleIter s.heap.objs.size t 1 := it1
  have in1 : ∀ b ∈ [s.heap.objs.size, t], b < h1.objs.size := fun b hb => by
    rcases List.mem_cons.mp hb with rfl | hb
    · obtain ⟨o, g, _⟩ := it1; exact Heap.lt_size g
    · rw [List.mem_singleton.mp hb]; obtain ⟨o, g, _⟩ := ht1; exact Heap.lt_size g
  have up : s.heap.objs.size ≤ h1.objs.size := Nat.le_of_lt (in1 _ (List.mem_cons_self ..))
  refine wpAny_bind (wpAny_holding (wpAny_collect_iter (s := { s with heap := h1 }) (T := "tuple_iterator") (.inr (.inr (.inr rfl))) (walk_rest (by simpa using hh) s.heap.objs.size t ne items 1 n0) (fun j s' st => st.1.typeIs) ⟨it1, ht1⟩ in1 (List.mem_cons_self ..) (fun s2 acc mv its => ?_) (by omega)))
  have acc_eq : acc.toList = rest := by
    refine List.ext_getElem? fun j => ?_
    rw [Array.getElem?_toList]
    cases q : acc[j]? with
    | some v =>
      have z : items[1 + j]? = some v := its.2 j v q
      rw [← Array.getElem?_toList, e, Nat.add_comm, List.getElem?_cons_succ] at z
      exact z.symm
    | none =>
      have z : acc.size ≤ j := by simpa using q
      rw [its.1, rl] at z
      exact (List.getElem?_eq_none z).symm
  have old2 : ∀ b o, s.heap.get? b = some o → s2.heap.get? b = some o := fun b o g => mv.heap b o (fun z => by rw [List.mem_singleton.mp z] at g; exact absurd (Heap.lt_size g) (Nat.lt_irrefl _)) (old1 b o g)
  obtain ⟨h2, g2, d2, tk2, os2⟩ := s2
  obtain rfl : s.gens = g2 := mv.gens
  obtain rfl : d2 = s.drawn := mv.drawn
  obtain rfl : os2 = s.os := mv.os
  rw [acc_eq]
  refine wp_if_neg (by simp) ?_
  have mid : rest.length - (2 - 1 - 1) = rest.length := by omega
  simp only [mid, List.take_length, List.drop_length]
  refine wpAny_bind (wpAny_newList ?_ (by omega))
  exact wpAny_pure (by simpa using hQ h2 tk2 old2)
/-- the target of a, *b -/
def gStar (K : PySem.W.Frag) (i j : Nat) : TG := fun v σ H Q => ∃ a y ys, v = .ref a ∧ SqT K H a (y :: ys) ∧ ∀ p, H p = none → Q ((σ.set i (some y)).set j (some (.ref p))) (upd H p (.lst ys))
theorem pg_star {X : Cx} {i j : Nat} {n m : Str} {k : Nat} {pn pm pt pos : Pos} (hc : X.calm = true) (hN : X.N.Nodup) (hi : X.N[i]? = some n) (hj : X.N[j]? = some m) (hn : X.env.scope.names.lookup n = some .local) (hm : X.env.scope.names.lookup m = some .local) :
    PG X (.Tuple [.Name n pn, .Starred (.Name m pm) pt] k pos) (gStar X.K i j) := by
  refine ⟨fun pins s σ H v u Q I r ⟨a, y, ys, e, hq, q⟩ => ?_⟩
  subst e
  obtain rfl : u = .ref a := r
  obtain ⟨its, rv, ht, hz⟩ := I.tuple hq
  cases rv with
  | cons r1 r2 =>
    rename_i u1 us
    rw [assign_Tuple]
    refine wpAny_bind (wpAny_standAt ?_)
    have two : (assignEach [.Name n pn, .Starred (.Name m pm) pt] X.env) = [(false, assign (.Name n pn) X.env), (true, assign (.Name m pm) X.env)] := rfl
    have lz : us.length ≤ sizeLine := by rw [← r2.length]; rw [List.length_cons] at hz; omega
    unfold unpack
    rw [two]
    refine wpAny_bind (wpAny_holding (unpack_star (x := u1) (rest := us) (I.ok.hd hc) ht (by simp) (by rw [List.size_toArray, List.length_cons, ← r2.length]; simpa using hz) fun h2 tk old => ?_))
    have I2 : Inv X pins σ H { s with heap := h2, toks := tk } := I.kept old
    have fresh : H h2.objs.size = none := I2.hok.fresh (Nat.le_refl _)
    have I3 : Inv X pins σ (upd H h2.objs.size (.lst ys)) { s with heap := h2.push { cls := .type "list", data := .seq us.toArray }, toks := tk } :=
      I2.laid (t' := tk) (o := .lst ys) (fun b o g => Heap.get?_push_of_some _ g) (Nat.le_refl _) ⟨by rw [r2.length]; exact lz, us, 0, r2, Heap.get?_push_size _ rfl⟩
    show wpAny _ _ (assignInOrder [assign (.Name n pn) X.env, assign (.Name m pm) X.env] [u1, .ref h2.objs.size]) _ _ _
    refine assignInOrder_cons (thn ((pg_name hN hi (.inl hn) (.inr hn)).run pins _ σ _ y u1 (fun σ' H' => σ' = σ.set i (some y) ∧ H' = upd H h2.objs.size (.lst ys)) I3 r1 ⟨rfl, rfl⟩) fun _ s4 ⟨σ4, H4, I4, e1, e2⟩ => ?_)
    subst e1 e2
    refine assignInOrder_cons (thn ((pg_name hN hj (.inl hm) (.inr hm)).run pins _ _ _ (.ref h2.objs.size) (.ref h2.objs.size) (fun σ' H' => σ' = (σ.set i (some y)).set j (some (.ref h2.objs.size)) ∧ H' = upd H h2.objs.size (.lst ys)) I4 rfl ⟨rfl, rfl⟩) fun _ s5 ⟨σ5, H5, I5, e1, e2⟩ => ?_)
    subst e1 e2
    exact assignInOrder_nil ⟨_, _, I5, q _ fresh⟩
end
end Lf

set_option Elab.async false
set_option linter.all false
set_option maxRecDepth 100000
set_option maxHeartbeats 4000000
/-! a, *b = t; x in T; calls that leave defaults out. -/
namespace Lf
open PySem PySem.Spec PyProof.Rows L2
section
variable {X : Cx} {er : ER} {C : CallT} {a e : Expr} {es : List Expr} {x : Ex} {xs : Exs} {pos p pn pm pt p2 : Pos}
theorem s_star {i j : Nat} {n m : Str} {k : Nat} (hu : Sur X) (hi : X.N[i]? = some n) (hj : X.N[j]? = some m) (hij : i ≠ j) (hn : X.env.scope.names.lookup n = some .local) (hm : X.env.scope.names.lookup m = some .local) (he : snd X er C e x)
    (hs : swapsWithSole [.Tuple [.Name n pn, .Starred (.Name m pm) pt] k p2] e pos.line X.env = pure false) (hw : swappedStores [.Tuple [.Name n pn, .Starred (.Name m pm) pt] k p2] e X.env = pure none) :
    sndS X er C (.Assign [.Tuple [.Name n pn, .Starred (.Name m pm) pt] k p2] e pos) (.star i j x) :=
  PS.weak (ps_asg he (pg_star hu.calm hu.nd hi hj hn hm) hs hw rfl) fun D σ H ⟨E, S, ι, hE, hS, h⟩ => by
    unfold exec at h
    refine useD hE hS h fun d S1 ι1 H1 u st ok he hu q => ?_
    cases d <;> try exact q.elim
    rename_i ds
    cases hu with
    | tup ha na r =>
      cases r with
      | nil => exact q.elim
      | cons r1 r2 =>
        rename_i y w ys us
        refine ⟨_, _, _, rfl, SqT.of ha, fun p hp => ?_⟩
        have st2 : Step ι1 H1 ι1 (upd H1 p (.lst us)) := Step.same (same_upd hp)
        have q2 := q.same (same_upd (o := .lst us) hp)
        refine fl_nx (H0 := H) q2 (ok.same (same_upd hp)) ?_
        refine EnvOk.set (v := .d (.list _)) (EnvOk.set (v := .d _) (he.mono st2) (RD.mono st2 r1)) ?_
        exact RD.lst upd_same (fresh_off ok hp) (r2.mono st2)
theorem inV_strs (z : Str) : ∀ xs : List Str, inV (.str z) (xs.map V.str) = xs.any fun y => decide (y = z)
  | [] => rfl
  | y :: ys => by
    have ih := inV_strs z ys
    unfold inV at ih ⊢
    have one : eqV (V.str y) (V.str z) = decide (y = z) := by
      show (y == z) = decide (y = z)
      rw [Bool.eq_iff_iff]; simp
    rw [List.map_cons, List.any_cons, List.any_cons, ih, one]
theorem flat_strs : ∀ xs : List Str, (xs.map V.str).all flatV = true
  | [] => rfl
  | y :: ys => by rw [List.map_cons, List.all_cons, flat_strs ys]; rfl
theorem snd_inG {n : Str} {ys : List Str} {T : Addr} (hg : Gl X n) (hm : X.mg n = some (.ref T)) (hd : (n == ("__debug__" : Str)) = false) (hT : SqT X.K noHp T (ys.map V.str)) (ha : snd X er C a x) : snd X er C (.Compare a [.In] [.Name n p] pos) (.inG x n ys) :=
  PE.weak (pe_cmpR op_in_seq ha (pe_glob (v := .ref T) hg hm rfl hd) rfl) fun σ H Q ⟨E, S, ι, hE, hS, h⟩ => by
    unfold ev at h
    refine useD hE hS h fun d S1 ι1 H1 u st ok he hu q => ?_
    cases d <;> try exact q.elim
    cases hu
    refine ⟨T, _, rfl, .inr (sqT_of hT), rfl, flat_strs ys, ?_⟩
    rw [if_neg (by decide), inV_strs]
    exact fin_val q ok (fun _ _ _ _ g => g) (.bl _)
theorem t_inG {n : Str} {ys : List Str} {T : Addr} (hg : Gl X n) (hm : X.mg n = some (.ref T)) (hd : (n == ("__debug__" : Str)) = false) (hT : SqT X.K noHp T (ys.map V.str)) (ha : snd X er C a x) : sndT X er C (.Compare a [.In] [.Name n p] pos) (.inG x n ys) :=
  PT.weak (pt_cmpR op_in_seq ha (pe_glob (v := .ref T) hg hm rfl hd) rfl) fun σ H Q ⟨E, S, ι, hE, hS, h⟩ => by
    unfold evT at h
    refine useD hE hS h fun d S1 ι1 H1 u st ok he hu q => ?_
    cases d <;> try exact q.elim
    cases hu
    refine ⟨T, _, rfl, .inr (sqT_of hT), rfl, flat_strs ys, ?_⟩
    rw [if_neg (by decide), inV_strs]
    exact ⟨_, rfl, Post.pure q ok⟩
def atomsV : List PyData → Option (List V)
  | [] => some []
  | d :: ds => match atomV1 d, atomsV ds with
    | some v, some vs => some (v :: vs)
    | _, _ => none
theorem atoms_rep {K : PySem.W.Frag} {ι : Adr} {H : Hp} : ∀ {ds : List PyData} {vs : List V}, atomsV ds = some vs → Paired (Rep K ι H) (ds.map .d) vs
  | [], vs, e => by cases e; exact .nil
  | d :: ds, vs, e => by
    unfold atomsV at e
    split at e
    · rename_i v vs' e1 e2
      cases e
      exact .cons (show RD K ι H d v from atomV1_rd e1) (atoms_rep e2)
    · cases e
theorem paired_app {α β : Type} {F : α → β → Prop} : ∀ {l1 : List α} {l2 : List β} {m1 : List α} {m2 : List β}, Paired F l1 l2 → Paired F m1 m2 → Paired F (l1 ++ m1) (l2 ++ m2)
  | _, _, _, _, .nil, h => h
  | _, _, _, _, .cons a b, h => .cons a (paired_app b h)
theorem snd_calld {k : Nat} {n : Str} {f : Addr} {ds : List PyData} {dvs : List V} (hc : CallR X (.ref f) (fun us H Q => rFn X.K er C k (us ++ dvs) H Q)) (hdv : atomsV ds = some dvs) (hg : Gl X n) (hm : X.mg n = some (.ref f)) (hk : PySem.W.keepIn X.K (.ref f) = true) (ha : sndVs X er C (a :: es) xs)
    (hd : (n == ("__debug__" : Str)) = false) (he : starEach (a :: es) X.env = (false, eval a X.env) :: starEach es X.env) (hpl : (backTo pos (starEach es X.env)).any (·.1) = false) :
    snd X er C (.Call (.Name n p) (a :: es) [] pos) (.calld k xs ds) := by
  refine ⟨fun pins s σ H Q I ⟨E, S, ι, hE, hS, h⟩ => ?_⟩
  unfold ev at h
  have rd : tCB (fun us H Q => rFn X.K er C k (us ++ dvs) H Q) (tVs X.K er (evs C xs)) σ H Q := useVs hE hS h fun vs S1 ι1 H1 us st ok he hu q =>
    ⟨vs ++ ds.map .d, S1, ι1, ok, paired_app hu (atoms_rep hdv), out_back st.dom q⟩
  refine wpAny_Call_Name_kw (ld_glob I hg hm ?_ hd)
  refine PySem.W.callWith_K (h₀ := X.base) I.ok.mod.kin hk (thn (ha.run pos pins s σ H _ I rd) fun us s1 ⟨vs, H1, I1, r, q⟩ => ⟨I1.kIn, ?_⟩) he hpl
  exact hc pins s1 σ H1 vs us Q I1 r q
end
end Lf

set_option Elab.async false
set_option linter.all false
set_option maxRecDepth 100000
set_option maxHeartbeats 4000000
/-! Calls: cells go in, cells come back. -/
namespace Lf
open PySem PySem.Spec PyProof.Rows L2

def putBk {α : Type} (S : List (Option α)) : List Nat → List (Option α) → List (Option α)
  | n :: ns, c :: cs => putBk (S.set n c) ns cs
  | _, _ => S
theorem putBack_eq : ∀ (S : Store) (ns : List Nat) (cs : Store), putBack S ns cs = putBk S ns cs
  | S, [], _ => by unfold putBack putBk; rfl
  | S, _ :: _, [] => by unfold putBack putBk; rfl
  | S, n :: ns, c :: cs => by unfold putBack putBk; exact putBack_eq _ ns cs
theorem putBk_len {α : Type} : ∀ (S : List (Option α)) (ns : List Nat) (cs : List (Option α)), (putBk S ns cs).length = S.length
  | S, [], _ => by unfold putBk; rfl
  | S, _ :: _, [] => by unfold putBk; rfl
  | S, n :: ns, c :: cs => by unfold putBk; rw [putBk_len]; simp
theorem putBk_out {α : Type} {m : Nat} : ∀ (S : List (Option α)) (ns : List Nat) (cs : List (Option α)), m ∉ ns → (putBk S ns cs)[m]? = S[m]?
  | S, [], _, _ => by unfold putBk; rfl
  | S, _ :: _, [], _ => by unfold putBk; rfl
  | S, n :: ns, c :: cs, h => by
    unfold putBk
    rw [putBk_out _ ns cs (fun z => h (List.mem_cons_of_mem _ z)), List.getElem?_set_ne (fun e => h (by rw [e]; exact List.mem_cons_self))]
theorem putBk_in {α : Type} {m : Nat} : ∀ (S : List (Option α)) (ns : List Nat) (cs : List (Option α)) (j : Nat), ns.Nodup → ns.length ≤ cs.length → m < S.length → ns[j]? = some m → (putBk S ns cs)[m]? = cs[j]?
  | S, [], _, j, _, _, _, e => by simp at e
  | S, _ :: _, [], _, _, h, _, _ => by simp at h
  | S, n :: ns, c :: cs, 0, nd, h, hm, e => by
    simp at e
    subst e
    unfold putBk
    rw [putBk_out _ ns cs (List.nodup_cons.mp nd).1, List.getElem?_set_self hm]
    rfl
  | S, n :: ns, c :: cs, j + 1, nd, h, hm, e => by
    unfold putBk
    exact putBk_in _ ns cs j (List.nodup_cons.mp nd).2 (by simpa using h) (by simpa using hm) (by simpa using e)
theorem putBk_app {α : Type} : ∀ (S : List (Option α)) (ns : List Nat) (cs more : List (Option α)), ns.length ≤ cs.length → putBk S ns (cs ++ more) = putBk S ns cs
  | S, [], _, _, _ => by unfold putBk; rfl
  | S, _ :: _, [], _, h => by simp at h
  | S, n :: ns, c :: cs, more, h => by
    show putBk (S.set n c) ns (cs ++ more) = putBk (S.set n c) ns cs
    exact putBk_app _ ns cs more (by simpa using h)

def arg (ns : List Nat) : Vl → Vl → Prop
  | .ref n, a => ∃ j : Nat, a = .ref j ∧ ns[j]? = some n
  | v, a => a = v
theorem callIn_spec : ∀ (vs : List Vl) (ns0 : List Nat) (as : List Vl) (ns : List Nat), callIn vs ns0 = some (as, ns) → ns0.Nodup → ns.Nodup ∧ (∃ r, ns = ns0 ++ r) ∧ Paired (arg ns) vs as
  | [], ns0, as, ns, e, nd => by
    unfold callIn at e; cases e
    exact ⟨nd, ⟨[], by simp⟩, .nil⟩
  | v :: vs, ns0, as, ns, e, nd => by
    cases v with
    | d x =>
      unfold callIn at e
      simp only [Option.map_eq_some_iff] at e
      obtain ⟨⟨a1, n1⟩, e1, e2⟩ := e
      cases e2
      obtain ⟨h1, h2, h3⟩ := callIn_spec vs ns0 a1 _ e1 nd
      exact ⟨h1, h2, .cons rfl h3⟩
    | scr x =>
      unfold callIn at e
      simp only [Option.map_eq_some_iff] at e
      obtain ⟨⟨a1, n1⟩, e1, e2⟩ := e
      cases e2
      obtain ⟨h1, h2, h3⟩ := callIn_spec vs ns0 a1 _ e1 nd
      exact ⟨h1, h2, .cons rfl h3⟩
    | ref n =>
      unfold callIn at e
      split at e
      · cases e
      · rename_i hn
        simp only [Option.map_eq_some_iff] at e
        obtain ⟨⟨a1, n1⟩, e1, e2⟩ := e
        cases e2
        obtain ⟨h1, ⟨r, h2⟩, h3⟩ := callIn_spec vs (ns0 ++ [n]) a1 _ e1 (by
          rw [List.nodup_append]
          refine ⟨nd, by simp, fun a ha b hb => ?_⟩
          simp at hb; subst hb
          exact fun z => hn (by rw [← z]; exact ha))
        refine ⟨h1, ⟨n :: r, by rw [h2]; simp⟩, .cons ⟨ns0.length, rfl, ?_⟩ h3⟩
        rw [h2]; simp
theorem cellsAt_spec {S : Store} : ∀ (ns : List Nat) (cs : Store), cellsAt S ns = some cs → cs.length = ns.length ∧ ∀ (j n : Nat), ns[j]? = some n → ∃ c, S[n]? = some (some c) ∧ cs[j]? = some (some c)
  | [], cs, e => by unfold cellsAt at e; cases e; exact ⟨rfl, fun j n h => by simp at h⟩
  | m :: ns, cs, e => by
    unfold cellsAt at e
    split at e
    · rename_i c cs' h1 h2
      cases e
      obtain ⟨h3, h4⟩ := cellsAt_spec ns cs' h2
      refine ⟨by simp [h3], fun j n h => ?_⟩
      cases j with
      | zero =>
        simp at h; subst h
        refine ⟨c, ?_, rfl⟩
        unfold cellAt at h1
        cases z : S[m]? with
        | none => rw [z] at h1; cases h1
        | some oo => rw [z] at h1; simp at h1; rw [h1]
      | succ j => exact h4 j n (by simpa using h)
    · cases e

section
variable {K : PySem.W.Frag} {ι : Adr} {H : Hp} {S : Store}
/-- the cells that go in -/
def Adr.sub (ι : Adr) (ns : List Nat) : Adr := ⟨ns.map fun n => (ι.at_[n]?).bind id, fun a => ι.av a ∧ ∀ n ∈ ns, ι.at_[n]? ≠ some (some a)⟩
theorem bind_id {α : Type} {o : Option (Option α)} {a : α} : o.bind id = some a ↔ o = some (some a) := by
  cases o with
  | none => simp
  | some o => cases o <;> simp
theorem sub_at {ns : List Nat} {j : Nat} {a : Addr} (h : (ι.sub ns).at_[j]? = some (some a)) : ∃ n, ns[j]? = some n ∧ ι.at_[n]? = some (some a) := by
  have h : (ns.map fun n => (ι.at_[n]?).bind id)[j]? = some (some a) := h
  rw [List.getElem?_map] at h
  cases q : ns[j]? with
  | none => rw [q] at h; cases h
  | some n =>
    rw [q] at h
    have h : (ι.at_[n]?).bind id = some a := Option.some.inj h
    exact ⟨n, rfl, bind_id.mp h⟩
theorem sub_av {ns : List Nat} {a : Addr} : (ι.sub ns).av a ↔ ι.av a := by
  constructor
  · rintro (h | h)
    · obtain ⟨j, h⟩ := mem_at.mp h
      obtain ⟨n, _, e⟩ := sub_at h
      exact .inl (mem_at.mpr ⟨n, e⟩)
    · exact h.1
  · intro h
    by_cases q : ∃ n, n ∈ ns ∧ ι.at_[n]? = some (some a)
    · obtain ⟨n, h1, h2⟩ := q
      refine .inl (List.mem_map.mpr ⟨n, h1, ?_⟩)
      exact bind_id.mpr h2
    · exact .inr ⟨h, fun n h1 h2 => q ⟨n, h1, h2⟩⟩
theorem StOk.solid (ok : StOk K ι H S) {a : Addr} (h : ι.av a) : ∃ o, H a = some o ∧ ∀ ys, o ≠ .tup ys := by
  rcases h with z | z
  · obtain ⟨n, hn⟩ := mem_at.mp z
    cases q : S[n]? with
    | none =>
      have h1 : n < ι.at_.length := (List.getElem?_eq_some_iff.mp hn).1
      rw [← ok.len] at h1
      have := List.getElem?_eq_none_iff.mp q
      omega
    | some o =>
      cases o with
      | none => have := ok.dead n q; rw [hn] at this; cases this
      | some c =>
        obtain ⟨b, h1, h2⟩ := ok.cell n c q
        rw [hn] at h1
        cases h1
        exact h2.isSome
  · exact (ok.hid a z).2
theorem StOk.sub (ok : StOk K ι H S) {ns : List Nat} {cs : Store} (nd : ns.Nodup) (hl : cs.length = ns.length) (hc : ∀ (j n : Nat), ns[j]? = some n → ∃ c, S[n]? = some (some c) ∧ cs[j]? = some (some c)) : StOk K (ι.sub ns) H cs where
  len := by simp [Adr.sub, hl]
  cell := fun j c e => by
    have hj : j < ns.length := by rw [← hl]; exact (List.getElem?_eq_some_iff.mp e).1
    obtain ⟨c', h1, h2⟩ := hc j ns[j] (List.getElem?_eq_getElem hj)
    rw [e] at h2
    cases h2
    obtain ⟨a, h3, h4⟩ := ok.cell _ _ h1
    refine ⟨a, ?_, h4.map (fun b o h n => ⟨h, fun z => n (sub_av.mp z)⟩) rfl⟩
    show (ns.map fun n => (ι.at_[n]?).bind id)[j]? = _
    rw [List.getElem?_map, List.getElem?_eq_getElem hj, Option.map_some, bind_id.mpr h3]
  dead := fun j e => by
    have hj : j < ns.length := by rw [← hl]; exact (List.getElem?_eq_some_iff.mp e).1
    obtain ⟨c', h1, h2⟩ := hc j ns[j] (List.getElem?_eq_getElem hj)
    rw [e] at h2
    cases h2
  inj := fun i j a h1 h2 => by
    obtain ⟨n, e1, e2⟩ := sub_at h1
    obtain ⟨m, e3, e4⟩ := sub_at h2
    have := ok.inj n m a e2 e4
    subst this
    exact (List.getElem?_inj (List.getElem?_eq_some_iff.mp e1).1 nd).mp (e1.trans e3.symm)
  hid := fun a h => by
    refine ⟨fun z => ?_, ok.solid h.1⟩
    obtain ⟨j, z⟩ := mem_at.mp z
    obtain ⟨n, e1, e2⟩ := sub_at z
    exact h.2 n (List.mem_of_getElem? e1) e2

/-- what comes back -/
def Adr.put (ι : Adr) (ns : List Nat) (ι' : Adr) : Adr := ⟨putBk ι.at_ ns ι'.at_, ι.hid⟩
section
variable {ι' : Adr} {H' : Hp} {cs : Store} {ns : List Nat}
theorem put_at (nd : ns.Nodup) (hn : ∀ n ∈ ns, n < ι.at_.length) (s : Step (ι.sub ns) H ι' H') {m : Nat} {a : Addr} (h : (ι.put ns ι').at_[m]? = some (some a)) : ι.at_[m]? = some (some a) := by
  have h : (putBk ι.at_ ns ι'.at_)[m]? = some (some a) := h
  by_cases q : m ∈ ns
  · obtain ⟨j, hj⟩ := List.mem_iff_getElem?.mp q
    have hl : ns.length ≤ ι'.at_.length := by have := s.len; simpa [Adr.sub] using this
    rw [putBk_in _ ns _ j nd hl (hn m q) hj] at h
    have hj' : j < (ι.sub ns).at_.length := by simp [Adr.sub]; exact (List.getElem?_eq_some_iff.mp hj).1
    obtain ⟨n, e1, e2⟩ := sub_at (s.old j a hj' h)
    rw [hj] at e1; cases e1
    exact e2
  · rwa [putBk_out _ _ _ q] at h
theorem put_sub (ok : StOk K ι H S) (nd : ns.Nodup) (hn : ∀ n ∈ ns, n < ι.at_.length) (s : Step (ι.sub ns) H ι' H') {a : Addr} (h : (ι.put ns ι').av a) : ι'.av a := by
  rcases h with h | h
  · obtain ⟨m, h⟩ := mem_at.mp h
    have h' : (putBk ι.at_ ns ι'.at_)[m]? = some (some a) := h
    by_cases q : m ∈ ns
    · obtain ⟨j, hj⟩ := List.mem_iff_getElem?.mp q
      have hl : ns.length ≤ ι'.at_.length := by have := s.len; simpa [Adr.sub] using this
      rw [putBk_in _ ns _ j nd hl (hn m q) hj] at h'
      exact .inl (mem_at.mpr ⟨j, h'⟩)
    · rw [putBk_out _ _ _ q] at h'
      exact .inr (s.hm a ⟨.inl (mem_at.mpr ⟨m, h'⟩), fun n h1 h2 => q (by rw [ok.inj m n a h' h2]; exact h1)⟩)
  · exact .inr (s.hm a ⟨.inr h, fun n h1 h2 => (ok.hid a h).1 (mem_at.mpr ⟨n, h2⟩)⟩)
theorem Step.put' (nd : ns.Nodup) (hn : ∀ n ∈ ns, n < ι.at_.length) (s : Step (ι.sub ns) H ι' H') : Step ι H (ι.put ns ι') H' where
  len := by simp [Adr.put, putBk_len]
  old := fun n a h e => put_at nd hn s e
  new := fun n a h e => by
    have : n < (putBk ι.at_ ns ι'.at_).length := (List.getElem?_eq_some_iff.mp e).1
    rw [putBk_len] at this
    omega
  keep := fun a o h n => s.keep a o h fun z => by
    obtain ⟨j, z⟩ := mem_at.mp z
    obtain ⟨m, _, e⟩ := sub_at z
    exact n (mem_at.mpr ⟨m, e⟩)
  hd := fun a h => .inl h
  hm := fun a h => h
  dom := s.dom
theorem StOk.put' (ok : StOk K ι H S) (nd : ns.Nodup) (hn : ∀ n ∈ ns, n < ι.at_.length) (s : Step (ι.sub ns) H ι' H') (k : StOk K ι' H' cs) : StOk K (ι.put ns ι') H' (putBk S ns cs) := by
  have hl' : ns.length ≤ ι'.at_.length := by have := s.len; simpa [Adr.sub] using this
  have hl : ns.length ≤ cs.length := by rw [k.len]; exact hl'
  have anti : ∀ a o, H' a = some o → ¬ ι'.av a → H' a = some o ∧ ¬ (ι.put ns ι').av a := fun a o h n => ⟨h, fun z => n (put_sub ok nd hn s z)⟩
  have other : ∀ {m : Nat} {a : Addr}, m ∉ ns → ι.at_[m]? = some (some a) → some a ∉ (ι.sub ns).at_ := fun {m a} q e z => by
    obtain ⟨j, z⟩ := mem_at.mp z
    obtain ⟨n, e1, e2⟩ := sub_at z
    exact q (by rw [ok.inj m n a e e2]; exact List.mem_of_getElem? e1)
  refine ⟨by simp [Adr.put, putBk_len, ok.len], fun m c e => ?_, fun m e => ?_, fun m n a h1 h2 => ok.inj m n a (put_at nd hn s h1) (put_at nd hn s h2), fun a h => ?_⟩
  · by_cases q : m ∈ ns
    · obtain ⟨j, hj⟩ := List.mem_iff_getElem?.mp q
      rw [putBk_in _ ns _ j nd hl (by rw [ok.len]; exact hn m q) hj] at e
      obtain ⟨a, h1, h2⟩ := k.cell j c e
      refine ⟨a, ?_, h2.map anti rfl⟩
      show (putBk ι.at_ ns ι'.at_)[m]? = _
      rw [putBk_in _ ns _ j nd hl' (hn m q) hj]; exact h1
    · rw [putBk_out _ _ _ q] at e
      obtain ⟨a, h1, h2⟩ := ok.cell m c e
      refine ⟨a, by show (putBk ι.at_ ns ι'.at_)[m]? = _; rw [putBk_out _ _ _ q]; exact h1, ?_⟩
      obtain ⟨o, ho, _⟩ := h2.isSome
      refine h2.map (fun b o h n => ?_) (by rw [ho]; exact s.keep a o ho (other q h1))
      have n1 : ¬ (ι.sub ns).av b := fun z => n (sub_av.mp z)
      refine ⟨s.keep b o h fun z => n1 (.inl z), fun z => ?_⟩
      exact s.off h n1 (put_sub ok nd hn s z)
  · by_cases q : m ∈ ns
    · obtain ⟨j, hj⟩ := List.mem_iff_getElem?.mp q
      rw [putBk_in _ ns _ j nd hl (by rw [ok.len]; exact hn m q) hj] at e
      show (putBk ι.at_ ns ι'.at_)[m]? = _
      rw [putBk_in _ ns _ j nd hl' (hn m q) hj]
      exact k.dead j e
    · rw [putBk_out _ _ _ q] at e
      show (putBk ι.at_ ns ι'.at_)[m]? = _
      rw [putBk_out _ _ _ q]
      exact ok.dead m e
  · refine ⟨fun z => ?_, ?_⟩
    · obtain ⟨m, z⟩ := mem_at.mp z
      exact (ok.hid a h).1 (mem_at.mpr ⟨m, put_at nd hn s z⟩)
    · obtain ⟨n, o, e, no⟩ := ok.hid a h
      refine ⟨o, s.keep a o e fun z => ?_, no⟩
      obtain ⟨j, z⟩ := mem_at.mp z
      obtain ⟨m, _, e2⟩ := sub_at z
      exact n (mem_at.mpr ⟨m, e2⟩)
/-- what was just made there, beside what comes back -/
theorem StOk.put1 {p : Addr} {c : Cell} (ok : StOk K ι H S) (nd : ns.Nodup) (hn : ∀ n ∈ ns, n < ι.at_.length) (s : Step (ι.sub ns) H ι' H') (hp : H p = none) (k : StOk K (ι'.push p) H' (cs ++ [some c])) :
    StOk K ((ι.put ns ι').push p) H' (putBk S ns cs ++ [some c]) := by
  have hl' : ns.length ≤ ι'.at_.length := by have := s.len; simpa [Adr.sub] using this
  have hlc := k.last.1
  have hl : ns.length ≤ cs.length := by rw [hlc]; exact hl'
  have s1 : Step (ι.sub ns) H (ι'.push p) H' :=
    { len := by have := s.len; simp [Adr.push]; omega
      old := fun n a h e => by
        have e : (ι'.at_ ++ [some p])[n]? = some (some a) := e
        rw [List.getElem?_append_left (Nat.lt_of_lt_of_le h s.len)] at e
        exact s.old n a h e
      new := fun n a h e => by
        have e : (ι'.at_ ++ [some p])[n]? = some (some a) := e
        by_cases q : n < ι'.at_.length
        · rw [List.getElem?_append_left q] at e; exact s.new n a h e
        · rw [List.getElem?_append_right (Nat.not_lt.mp q)] at e
          cases z : n - ι'.at_.length with
          | zero => rw [z] at e; simp at e; rw [← e]; exact hp
          | succ j => rw [z] at e; simp at e
      keep := s.keep, hd := s.hd, hm := s.hm, dom := s.dom }
  have k1 := ok.put' nd hn s1 k
  have e1 : (ι.put ns (ι'.push p)) = ι.put ns ι' := by
    unfold Adr.put
    show Adr.mk (putBk ι.at_ ns (ι'.at_ ++ [some p])) ι.hid = _
    rw [putBk_app _ _ _ _ hl']
  have e2 : putBk S ns (cs ++ [some c]) = putBk S ns cs := putBk_app _ _ _ _ hl
  rw [e1, e2] at k1
  have np : ¬ (ι.put ns ι').av p := fun z => by
    rcases z with z | z
    · obtain ⟨m, z⟩ := mem_at.mp z
      obtain ⟨o, e, _⟩ := ok.solid (.inl (mem_at.mpr ⟨m, put_at nd hn s z⟩))
      rw [hp] at e; cases e
    · obtain ⟨o, e, _⟩ := ok.solid (.inr z)
      rw [hp] at e; cases e
  -- the new one is hidden, then shown
  have sub : ∀ a, ((ι.put ns ι').push p).av a → (ι'.push p).av a := fun a z => by
    rcases z with z | z
    · rcases List.mem_append.mp z with z | z
      · exact (put_sub ok nd hn s (.inl z)).imp (fun z => List.mem_append_left _ z) fun z => z
      · exact .inl (List.mem_append_right _ z)
    · exact (put_sub ok nd hn s (.inr z)).imp (fun z => List.mem_append_left _ z) fun z => z
  have hc := k.last.2
  obtain ⟨o, ho, no⟩ := hc.isSome
  have hid : StOk K ((ι.put ns ι').hide p) H' (putBk S ns cs) := by
    refine ⟨k1.len, fun m d e => ?_, k1.dead, k1.inj, fun a h => ?_⟩
    · obtain ⟨a, h1, h2⟩ := k1.cell m d e
      refine ⟨a, h1, ?_⟩
      -- its parts keep off p
      by_cases q : m ∈ ns
      · obtain ⟨j, hj⟩ := List.mem_iff_getElem?.mp q
        have hm : m < S.length := by rw [ok.len]; exact hn m q
        rw [putBk_in _ ns _ j nd hl hm hj] at e
        have hjl : j < cs.length := (List.getElem?_eq_some_iff.mp e).1
        obtain ⟨b, h3, h4⟩ := k.cell j d (by rw [List.getElem?_append_left hjl]; exact e)
        have h3 : (ι'.at_ ++ [some p])[j]? = some (some b) := h3
        rw [List.getElem?_append_left (by rw [← hlc]; exact hjl)] at h3
        have h1' : (putBk ι.at_ ns ι'.at_)[m]? = some (some a) := h1
        rw [putBk_in _ ns _ j nd hl' (hn m q) hj, h3] at h1'
        cases h1'
        refine h4.map (fun x o h n => ⟨h, fun z => n ?_⟩) rfl
        rcases z with z | z
        · exact sub x (.inl (List.mem_append_left _ z))
        · rcases z with z | z
          · exact sub x (.inr z)
          · rw [z]; exact .inl (List.mem_append_right _ (by simp))
      · rw [putBk_out _ _ _ q] at e
        obtain ⟨b, h3, h4⟩ := ok.cell m d e
        have h1' : (putBk ι.at_ ns ι'.at_)[m]? = some (some a) := h1
        rw [putBk_out _ _ _ q, h3] at h1'
        cases h1'
        obtain ⟨o', ho', _⟩ := h4.isSome
        refine h4.map (fun x o h n => ?_) ?_
        · have n1 : ¬ (ι.sub ns).av x := fun z => n (sub_av.mp z)
          refine ⟨s.keep x o h fun z => n1 (.inl z), fun z => ?_⟩
          refine s1.off h n1 ?_
          rcases z with z | z
          · exact sub x (.inl (List.mem_append_left _ z))
          · rcases z with z | z
            · exact sub x (.inr z)
            · rw [z]; exact .inl (List.mem_append_right _ (by simp))
        · rw [ho']
          refine s.keep _ _ ho' fun z => ?_
          obtain ⟨j, z⟩ := mem_at.mp z
          obtain ⟨n', e5, e6⟩ := sub_at z
          exact q (by rw [ok.inj m n' _ h3 e6]; exact List.mem_of_getElem? e5)
    · rcases h with h | h
      · exact k1.hid a h
      · subst h
        exact ⟨fun z => np (.inl z), o, ho, no⟩
  refine StOk.unhide hid (hc.map (fun x o h n => ⟨h, fun z => n ?_⟩) rfl) fun z => np (.inr z)
  rcases z with z | z
  · exact sub x (.inl (List.mem_append_left _ z))
  · rcases z with z | z
    · exact sub x (.inr z)
    · rw [z]; exact .inl (List.mem_append_right _ (by simp))
end
end

/-! ### the callee's reading -/
abbrev rCal (K : PySem.W.Frag) (er : ER) (C : CallT) (k : Nat) : List V → Hp → VK → Prop := fun us H Q => ∃ (vs : List Vl) (S : Store) (ι : Adr), StOk K ι H S ∧ Paired (Rep K ι H) vs us ∧
  Post K er ι H (fun o S' ι' H' => ∀ u, OutOk K H ι' H' S' o u → Q u H') (C k vs S)
theorem outOk_back {K : PySem.W.Frag} {ι ι' : Adr} {H H' : Hp} {S cs : Store} {ns : List Nat} {o o' : Out} {u : V} (ok : StOk K ι H S) (nd : ns.Nodup) (hn : ∀ n ∈ ns, n < ι.at_.length) (s : Step (ι.sub ns) H ι' H')
    (e : outBack ns o = some o') (h : OutOk K H ι' H' cs o u) : OutOk K H (ι.put ns ι') H' (putBk S ns cs) o' u := by
  have hl' : ns.length ≤ ι'.at_.length := by have := s.len; simpa [Adr.sub] using this
  cases o with
  | val v =>
    cases v with
    | d x => cases e; exact RD.anti (fun a z => put_sub ok nd hn s z) h
    | scr zs =>
      cases e
      obtain ⟨a, e, h⟩ := h
      exact ⟨a, e, h.anti fun a z => put_sub ok nd hn s z⟩
    | ref j =>
      unfold outBack at e
      simp only [Option.map_eq_some_iff] at e
      obtain ⟨n, hj, rfl⟩ := e
      have hnm := List.mem_of_getElem? hj
      refine ⟨by simp [Adr.put, putBk_len]; exact hn n hnm, fun a ha => ?_⟩
      have ha : (putBk ι.at_ ns ι'.at_)[n]? = some (some a) := ha
      rw [putBk_in _ ns _ j nd hl' (hn n hnm) hj] at ha
      exact h.2 a ha
  | lst xs =>
    cases e
    obtain ⟨p, rfl, hp, np, k⟩ := h
    exact ⟨p, rfl, hp, fun z => np (put_sub ok nd hn s z), ok.put1 nd hn s hp k⟩
  | dct xs =>
    cases e
    obtain ⟨p, rfl, hp, np, k⟩ := h
    exact ⟨p, rfl, hp, fun z => np (put_sub ok nd hn s z), ok.put1 nd hn s hp k⟩
theorem args_rep {K : PySem.W.Frag} {ι : Adr} {H : Hp} {ns : List Nat} : ∀ {vs as : List Vl} {us : List V}, Paired (arg ns) vs as → Paired (Rep K ι H) vs us → Paired (Rep K (ι.sub ns) H) as us
  | [], _, _, .nil, .nil => .nil
  | v :: vs, _, _, .cons a t, .cons r q => by
    refine .cons ?_ (args_rep t q)
    cases v with
    | d x => cases a; exact RD.anti (fun a z => sub_av.mp z) r
    | scr zs =>
      cases a
      obtain ⟨a, e, h⟩ := r
      exact ⟨a, e, h.anti fun a z => sub_av.mp z⟩
    | ref n =>
      obtain ⟨j, rfl, hj⟩ := a
      refine ⟨by simp [Adr.sub]; exact (List.getElem?_eq_some_iff.mp hj).1, fun a ha => ?_⟩
      obtain ⟨m, e1, e2⟩ := sub_at ha
      rw [hj] at e1; cases e1
      exact r.2 a e2
theorem rFn_cal {K : PySem.W.Frag} {er : ER} {C : CallT} {k : Nat} {us : List V} {H : Hp} {Q : VK} (h : rFn K er C k us H Q) : rCal K er C k us H Q := by
  obtain ⟨vs, S, ι, ok, r, h⟩ := h
  unfold callM at h
  cases e1 : callIn vs [] with
  | none => simp only [e1] at h; exact h.elim
  | some p =>
    obtain ⟨as, ns⟩ := p
    simp only [e1] at h
    cases e2 : cellsAt S ns with
    | none => simp only [e2] at h; exact h.elim
    | some cs =>
      simp only [e2] at h
      obtain ⟨nd, _, ha⟩ := callIn_spec vs [] as ns e1 List.nodup_nil
      obtain ⟨hl, hc⟩ := cellsAt_spec ns cs e2
      have hn : ∀ n ∈ ns, n < ι.at_.length := fun n z => by
        obtain ⟨j, hj⟩ := List.mem_iff_getElem?.mp z
        obtain ⟨c, e, _⟩ := hc j n hj
        rw [← ok.len]
        exact (List.getElem?_eq_some_iff.mp e).1
      refine ⟨as, cs, ι.sub ns, ok.sub nd hl hc, args_rep ha r, ?_⟩
      cases e3 : C k as cs with
      | stuck => simp only [e3] at h; exact h
      | exc c S' =>
        simp only [e3] at h
        rw [putBack_eq] at h
        exact fun ι' H' s q => h _ H' (s.put' nd hn) (ok.put' nd hn s q)
      | ok o S' =>
        simp only [e3] at h
        cases e4 : outBack ns o with
        | none => simp only [e4] at h; exact h.elim
        | some o' =>
          simp only [e4] at h
          rw [putBack_eq] at h
          exact fun ι' H' s q u hu => h _ H' (s.put' nd hn) (ok.put' nd hn s q) u (outOk_back ok nd hn s e4 hu)
end Lf

set_option Elab.async false
set_option linter.all false
set_option maxRecDepth 100000
set_option maxHeartbeats 4000000
/-! A def of the text keeps what `run` says. -/
namespace Lf
open PySem PySem.Spec PyProof.Rows L2

/-! ### the way out -/
section
variable {K : PySem.W.Frag} {ι ι' : Adr} {H H' : Hp} {S : Store} {m : Nat}
def Adr.cut (ι' : Adr) (m : Nat) : Adr := ⟨ι'.at_.take m, ι'.hid⟩
theorem cut_at {n : Nat} {a : Addr} (h : (ι'.cut m).at_[n]? = some (some a)) : n < m ∧ ι'.at_[n]? = some (some a) := by
  have h : (ι'.at_.take m)[n]? = some (some a) := h
  rw [List.getElem?_take] at h
  split at h
  · exact ⟨by assumption, h⟩
  · cases h
theorem cut_av {a : Addr} (h : (ι'.cut m).av a) : ι'.av a := h.imp (fun z => by
  obtain ⟨n, e⟩ := mem_at.mp z
  exact mem_at.mpr ⟨n, (cut_at e).2⟩) fun z => z
theorem Step.cut (s : Step ι H ι' H') (hm : m = ι.at_.length) : Step ι H (ι'.cut m) H' where
  len := by show _ ≤ (ι'.at_.take m).length; rw [List.length_take]; have := s.len; omega
  old := fun n a h e => s.old n a h (cut_at e).2
  new := fun n a h e => absurd (cut_at e).1 (by omega)
  keep := s.keep
  hd := s.hd
  hm := s.hm
  dom := s.dom
theorem StOk.cut (k : StOk K ι' H' S) : StOk K (ι'.cut m) H' (S.take m) where
  len := by show _ = (ι'.at_.take m).length; rw [List.length_take, List.length_take, k.len]
  cell := fun n c e => by
    rw [List.getElem?_take] at e
    split at e
    · rename_i hn
      obtain ⟨a, h1, h2⟩ := k.cell n c e
      refine ⟨a, ?_, h2.map (fun b o h n => ⟨h, fun z => n (cut_av z)⟩) rfl⟩
      show (ι'.at_.take m)[n]? = _
      rw [List.getElem?_take, if_pos hn]; exact h1
    · cases e
  dead := fun n e => by
    rw [List.getElem?_take] at e
    show (ι'.at_.take m)[n]? = _
    split at e
    · rename_i hn
      rw [List.getElem?_take, if_pos hn]; exact k.dead n e
    · cases e
  inj := fun i j a h1 h2 => k.inj i j a (cut_at h1).2 (cut_at h2).2
  hid := fun a h => by
    obtain ⟨h1, h2⟩ := k.hid a h
    exact ⟨fun z => by obtain ⟨n, e⟩ := mem_at.mp z; exact h1 (mem_at.mpr ⟨n, (cut_at e).2⟩), h2⟩
theorem StOk.cut1 {n : Nat} {a : Addr} {c : Cell} (k : StOk K ι' H' S) (hn : m ≤ n) (ha : ι'.at_[n]? = some (some a)) (hc : S[n]? = some (some c)) : ¬ (ι'.cut m).av a ∧ StOk K ((ι'.cut m).push a) H' (S.take m ++ [some c]) := by
  have na : ¬ (ι'.cut m).av a := fun z => z.elim (fun z => by
    obtain ⟨j, e⟩ := mem_at.mp z
    have := k.inj j n a (cut_at e).2 ha
    have := (cut_at e).1
    omega) fun z => (k.hid a z).1 (mem_at.mpr ⟨n, ha⟩)
  obtain ⟨b, h1, h2⟩ := k.cell n c hc
  rw [ha] at h1; cases h1
  have kc : StOk K (ι'.cut m) H' (S.take m) := k.cut
  have sub : ∀ b, ((ι'.cut m).hide a).av b → ι'.av b := fun b z => by
    rcases z with z | z
    · exact cut_av (.inl z)
    · rcases z with z | z
      · exact cut_av (.inr z)
      · rw [z]; exact .inl (mem_at.mpr ⟨n, ha⟩)
  have anti : ∀ b o, H' b = some o → ¬ ι'.av b → H' b = some o ∧ ¬ ((ι'.cut m).hide a).av b := fun b o h n => ⟨h, fun z => n (sub b z)⟩
  refine ⟨na, StOk.unhide (c := c) ⟨kc.len, fun j d e => ?_, kc.dead, kc.inj, fun b h => ?_⟩ (h2.map anti rfl) fun z => na (.inr z)⟩
  · rw [List.getElem?_take] at e
    split at e
    · rename_i hj
      obtain ⟨b, h3, h4⟩ := k.cell j d e
      refine ⟨b, ?_, h4.map anti rfl⟩
      show (ι'.at_.take m)[j]? = _
      rw [List.getElem?_take, if_pos hj]; exact h3
    · cases e
  · rcases h with h | h
    · exact kc.hid b h
    · subst h
      exact ⟨fun z => na (.inl z), h2.isSome⟩
theorem leave_ok {er : ER} {G : Out → Store → Adr → Hp → Prop} {o : Out} (h : Post K er ι H G (leave m o S)) (hm : m = ι.at_.length) (s : Step ι H ι' H') (k : StOk K ι' H' S) {u : V} (hu : OutOk K H ι' H' S o u) :
    ∃ o', G o' (S.take m) (ι'.cut m) H' ∧ OutOk K H (ι'.cut m) H' (S.take m) o' u := by
  unfold leave at h
  cases e : exitO m S o with
  | none => simp only [e] at h; exact h.elim
  | some o' =>
    simp only [e] at h
    refine ⟨o', h _ H' (s.cut hm) k.cut, ?_⟩
    cases o with
    | val v =>
      cases v with
      | d x => cases e; exact RD.anti (fun a z => cut_av z) hu
      | scr ns =>
        cases e
        obtain ⟨a, e, h⟩ := hu
        exact ⟨a, e, h.anti fun a z => cut_av z⟩
      | ref n =>
        have hu : n < ι'.at_.length ∧ ∀ a, ι'.at_[n]? = some (some a) → u = .ref a := hu
        unfold exitO at e
        simp only at e
        split at e
        · rename_i hn
          cases e
          refine ⟨by show n < (ι'.at_.take m).length; rw [List.length_take]; omega, fun a ha => hu.2 a (cut_at ha).2⟩
        · rename_i hn
          cases q : cellAt S n with
          | none => rw [q] at e; cases e
          | some c =>
            rw [q] at e
            have hs : S[n]? = some (some c) := bind_id.mp q
            obtain ⟨a, ha, _⟩ := k.cell n c hs
            obtain ⟨h1, h2⟩ := k.cut1 (m := m) (Nat.not_lt.mp hn) ha hs
            have eu := hu.2 a ha
            have hp : H a = none := s.new n a (by omega) ha
            cases c with
            | lst xs => cases e; exact ⟨a, eu, hp, h1, h2⟩
            | dct xs => cases e; exact ⟨a, eu, hp, h1, h2⟩
    | lst xs =>
      cases e
      obtain ⟨p, rfl, hp, np, kk⟩ := hu
      have e1 : (S ++ [some (Cell.lst xs)])[S.length]? = some (some (.lst xs)) := by simp
      have e2 : (ι'.push p).at_[S.length]? = some (some p) := by
        show (ι'.at_ ++ [some p])[S.length]? = _
        rw [k.len]; simp
      have hml : m ≤ S.length := by rw [hm, k.len]; exact s.len
      obtain ⟨h1, h2⟩ := kk.cut1 (m := m) hml e2 e1
      have e3 : (ι'.push p).cut m = ι'.cut m := by
        unfold Adr.cut Adr.push
        simp only
        rw [List.take_append_of_le_length (by rw [← k.len]; exact hml)]
      rw [e3, List.take_append_of_le_length hml] at h2
      rw [e3] at h1
      exact ⟨p, rfl, hp, h1, h2⟩
    | dct xs =>
      cases e
      obtain ⟨p, rfl, hp, np, kk⟩ := hu
      have e1 : (S ++ [some (Cell.dct xs)])[S.length]? = some (some (.dct xs)) := by simp
      have e2 : (ι'.push p).at_[S.length]? = some (some p) := by
        show (ι'.at_ ++ [some p])[S.length]? = _
        rw [k.len]; simp
      have hml : m ≤ S.length := by rw [hm, k.len]; exact s.len
      obtain ⟨h1, h2⟩ := kk.cut1 (m := m) hml e2 e1
      have e3 : (ι'.push p).cut m = ι'.cut m := by
        unfold Adr.cut Adr.push
        simp only
        rw [List.take_append_of_le_length (by rw [← k.len]; exact hml)]
      rw [e3, List.take_append_of_le_length hml] at h2
      rw [e3] at h1
      exact ⟨p, rfl, hp, h1, h2⟩
theorem pget {α β : Type} {R : α → β → Prop} : ∀ {xs : List α} {ys : List β} {i : Nat} {x : α}, Paired R xs ys → xs[i]? = some x → ∃ y, ys[i]? = some y ∧ R x y
  | _, _, _, _, .nil, e => by simp at e
  | _, _, 0, _, .cons a _, e => by simp at e; subst e; exact ⟨_, rfl, a⟩
  | _, _, i + 1, x, .cons _ b, e => by
    obtain ⟨v, h1, h2⟩ := pget (i := i) b (by simpa using e)
    exact ⟨v, by simpa using h1, h2⟩
/-- the body's reading out of the call's -/
theorem cal_body {er : ER} {P : List Fn} {k f : Nat} {fn : Fn} {N : List Str} {us : List V} {Q : VK} (hf : P[f]? = some fn) (hN : fn.ns = N.length) (h : rCal K er (run P (k + 1)) f us H Q) :
    us.length = fn.np ∧ tS K er (execs (run P k) fn.body) { nx := fun _ H' => Q .non H', rt := Q, bk := fun _ _ => False, ct := fun _ _ => False } (L2.start N us) H := by
  obtain ⟨vs, S, ι, ok, r, h⟩ := h
  unfold run at h
  simp only [hf] at h
  split at h
  · rename_i hl
    refine ⟨by rw [← r.length, hl], startE fn vs, S, ι, ⟨?_, fun i v e => ?_⟩, ok, ?_⟩
    · unfold startE L2.start
      simp only [List.length_append, List.length_map, List.length_replicate]
      rw [← r.length, hl, hN]
    · unfold startE at e
      have hi : i < vs.length := by
        by_cases hi : i < vs.length
        · exact hi
        · rw [List.getElem?_append_right (by simpa using hi), List.getElem?_replicate] at e
          split at e <;> cases e
      rw [List.getElem?_append_left (by simpa using hi), List.getElem?_map, List.getElem?_eq_getElem hi] at e
      cases e
      obtain ⟨u, hu, ru⟩ := pget r (List.getElem?_eq_getElem hi)
      refine ⟨u, ?_, ru⟩
      unfold L2.start
      rw [List.getElem?_append_left (by rw [List.length_map, ← r.length]; exact hi), List.getElem?_map, hu]
      rfl
    · cases e : execs (run P k) fn.body (startE fn vs) S with
      | stuck => simp only [e] at h; exact h
      | exc c S' =>
        simp only [e] at h
        exact fun ι' H' s q => h _ H' (s.cut ok.len) q.cut
      | ok r S' =>
        simp only [e] at h
        intro ι' H' s q
        unfold FlOk
        cases er : r.1 with
        | nx =>
          simp only [er] at h
          intro σ' _
          obtain ⟨o', g, hu⟩ := leave_ok h ok.len s q (u := .non) RD.non
          exact g _ hu
        | bk => simp only [er] at h; exact h.elim
        | ct => simp only [er] at h; exact h.elim
        | rt o =>
          simp only [er] at h
          intro u hu
          obtain ⟨o', g, hu⟩ := leave_ok h ok.len s q hu
          exact g _ hu
  · exact h.elim
end

/-! ### what a def promises -/
/-- a def's promise where no guard of repr stands around: the rooms left, the bound values, the wish -/
structure FnG (P : Program) (w : World) (K : PySem.W.Frag) (mg : Str → Option Value) (base : Heap) (k : Nat) (f : Addr) (fd : FuncData) (ps : List Str) (sp : List V → Hp → VK → Prop) : Prop where
  len : ∀ vs H Q, sp vs H Q → vs.length = ps.length
  run : ∀ (A : Around) (outer : List PySem.Env) (s : Shared) (H : Hp) (args : Args) (us : List Value) (vs : List V) (Q : VK) (E : XK), Room k A → A.guards = some [] → Env0 P w K mg base A outer s H → BindsTo s fd args (ps.zip us) → Vals vs us → sp vs H Q →
    codeAny (model P w) A (.call (.ref f) args) (CR CX0 outer P w H s Q E) s
section
variable {P : Program} {w : World} {K : PySem.W.Frag} {mg : Str → Option Value} {base : Heap}
/-- the parameters are the frame's own names -/
theorem own_names {N ps : List Str} {sc : Scope} {us : List Value} {m : Nat} (S : FnScope N ps sc) (y : Str × Value) (hy : y ∈ ps.zip us) :
    sc.names.lookup y.1 = some .local ∨ (sc.names.lookup y.1 = some .cell ∧ ((cellsFrom m sc.names []).lookup y.1).isSome = true) :=
  (S.par y.1 (List.of_mem_zip (show (y.1, y.2) ∈ _ from hy)).1).imp id fun c => ⟨c, PySem.W.cellsFrom_some sc.names m [] (.inl c)⟩
/-- a def as it lies in what the text has laid, its defaults whatever -/
structure FunV (K : PySem.W.Frag) (x qual : Str) (st : Stmt) (f : Addr) (fd : FuncData) : Prop where
  ex : ∃ (oc : Value) (od : Option Addr) (dV kV doc pm : Value) (an : Option Addr) (cdv ct : Value) (osl : Array (Option Value)),
    fd = PySem.W.fnOf x qual (defArgs st) (defBody st) (defScope st) dV kV doc pm an cdv ct ∧ K.lookup f = some ⟨oc, od, .func fd, osl⟩ ∧ PySem.W.codeIn K cdv qual = true
/-- a def of the text by its body's reading -/
theorem fnG0 {x qual : Str} {st : Stmt} {f : Addr} {fd : FuncData} {N ps : List Str} {k : Nat} {sp : List V → Hp → VK → Prop} (F : FunV K x qual st f fd) (S : FnScope N ps (defScope st)) (len : ∀ vs H Q, sp vs H Q → vs.length = ps.length)
    (hbody : ∀ (cdv : Value) (A : Around) (outer : List PySem.Env) (s : Shared) (H : Hp) (vs : List V) (Q : VK) (E : XK), Room k (A.deeper (envOfC qual (defScope st) s.heap.objs.size f cdv)) → A.guards = some [] → sp vs H Q →
      ∃ t, PSs (cxOf CX0 P w K mg base N qual (defScope st) f cdv A outer s H E).nox (defBody st) t ∧ t { nx := fun _ H' => Q .non H', rt := Q } (L2.start N vs) H) : FnG P w K mg base (k + 1) f fd ps sp := by
  obtain ⟨oc, od, dV, kV, doc, pm, an, cdv, ct, osl, rfl, there, code⟩ := F.ex
  constructor
  · exact len
  · intro A outer s H args us vs Q E room guards env bound vals want
    have same : ∀ b o, base.get? b = some o → s.heap.get? b = some o := fun b o e => (env.bs b o e).1
    have KX : K.In s.heap := env.mod.kin.keeps same
    apply codeAny_call_function room.depth (KX f _ there) rfl S.co S.gen rfl (PySem.W.codeRec_of KX code)
    apply bound
    apply wpAny_newFunctionEnv_cells S.kind (own_names S)
    rintro _ rfl s1 entered
    refine ⟨(env.mod.nolimit.keeps same).keeps entered.toInCall.keep, ?_⟩
    apply codeAny_func
    obtain ⟨t, body, q⟩ := hbody cdv A outer s H vs Q E (room.deeper _) guards want
    have I0 := inv_start (CX := CX0) (qual := qual) (f := f) (cd := cdv) (E := E) S room.hd env (len vs H Q want) vals entered
    refine wpAny_mono (body.nox.run [] s1 _ H _ I0 q) ?_ (fun _ _ z => z)
    intro fl s2 z
    match fl, z with
    | .ret u, ⟨v, _, H2, J, rv, g⟩ => exact ⟨v, H2, J.os, J.bare, J.base, J.hok, rv, g⟩
    | .next, ⟨_, H2, J, g⟩ => exact ⟨.non, H2, J.os, J.bare, J.base, J.hok, rfl, g⟩
    | .brk, ⟨_, _, _, g⟩ => exact absurd (show False from g) id
    | .cont, ⟨_, _, _, g⟩ => exact absurd (show False from g) id
/-- a call of it by values -/
theorem vals_app : ∀ {vs ws : List V} {us zs : List Value}, Vals vs us → Vals ws zs → Vals (vs ++ ws) (us ++ zs)
  | _, _, _, _, .nil, h => h
  | _, _, _, _, .cons a b, h => .cons a (vals_app b h)
theorem run_fnD {X : Cx} {k : Nat} {f : Addr} {fd : FuncData} {ps : List Str} {sp : List V → Hp → VK → Prop} {ds : List Value} {dvs : List V} (F : FnG X.prog X.w X.K X.mg X.base k f fd ps sp) (room : Room k X.A) (guards : X.A.guards = some []) (bd : Binds X.K fd ps ds) (rd : Vals dvs ds) :
    CallR X (.ref f) (fun us H Q => sp (us ++ dvs) H Q) := by
  intro pins s σ H vs us Q I r want
  have v2 : Vals (vs ++ dvs) (us ++ ds) := vals_app r rd
  have bound := bd s us I.kIn (by rw [← v2.length]; exact F.len _ H Q want)
  apply wpAny_call
  refine codeAny_mono (F.run X.A X.stack s H _ _ _ Q (fun _ _ _ => False) room guards I.env0 bound v2 want) ?_
  intro res s2 z
  match res, z with
  | .error _, z => exact absurd (show False from z) id
  | .ok (.ret u), z => exact I.after z
  | .ok .next, z => exact absurd (show False from z) id
  | .ok .brk, z => exact absurd (show False from z) id
  | .ok .cont, z => exact absurd (show False from z) id
theorem run_fnG {X : Cx} {k : Nat} {f : Addr} {fd : FuncData} {ps : List Str} {sp : List V → Hp → VK → Prop} (F : FnG X.prog X.w X.K X.mg X.base k f fd ps sp) (room : Room k X.A) (guards : X.A.guards = some []) (bd : Binds X.K fd ps []) : CallR X (.ref f) sp := by
  intro pins s σ H vs us Q I r want
  exact run_fnD F room guards bd .nil pins s σ H vs us Q I r (by show sp (vs ++ []) H Q; rw [List.append_nil]; exact want)
/-- a def that may be called by its name (D: its defaults, where they are looked at) -/
structure CalG (P : Program) (w : World) (K : PySem.W.Frag) (mg : Str → Option Value) (base : Heap) (k : Nat) (x : Str) (D : Option (List PyData)) (sp : List V → Hp → VK → Prop) : Prop where
  ex : ∃ (f : Addr) (fd : FuncData) (ps : List Str), FnG P w K mg base k f fd ps sp ∧ mg x = some (.ref f) ∧ PySem.W.keepIn K (.ref f) = true ∧ Binds K fd ps [] ∧ ∀ dd, D = some dd → ∃ ds dvs, atomsV dd = some dvs ∧ Vals dvs ds ∧ Binds K fd ps ds
end
end Lf

set_option Elab.async false
set_option linter.all false
set_option maxRecDepth 100000
set_option maxHeartbeats 4000000
/-! Displays of dicts. -/
namespace Lf
open PySem PySem.Spec PyProof.Rows L2

def constV : Const → Option V
  | .none => some .non
  | .bool b => some (.bl b)
  | .int i => some (.int i)
  | .str s => some (.str s)
  | _ => none
theorem constV_rd {K ι H c d v} (e : constD c = some d) (e2 : constV c = some v) : RD K ι H d v := by
  cases c <;> simp only [constD, constV] at e e2 <;> try (cases e; done)
  all_goals cases e; cases e2
  · exact .non
  · exact .bl _
  · exact .int _
  · exact .str _
section
variable {X : Cx} {er : ER} {C : CallT} {pos : Pos}
theorem pe_const {c : Const} {v : V} {j : Nat} {p : Pos} (e : constV c = some v) : PE X (.Constant c j p) (tC v) := by
  cases c <;> simp only [constV] at e <;> try (cases e; done)
  all_goals cases e
  · exact pe_non
  · exact pe_bl
  · exact pe_int
  · exact pe_str
def keyC : Const → Option Key
  | .int i => some (.inl i)
  | .str s => some (.inr s)
  | _ => none
def cstOf : Expr → Option Const
  | .Constant c _ _ => some c
  | _ => none
theorem cstOf_spec {e : Expr} {c : Const} (h : cstOf e = some c) : ∃ j p, e = .Constant c j p := by
  cases e <;> simp only [cstOf] at h <;> first | (cases h; exact ⟨_, _, rfl⟩) | cases h
/-- a written dict of constants -/
def dcOf : List (Option Expr) → List Expr → Option (List (PyData × PyData) × List (Key × V))
  | [], [] => some ([], [])
  | some k :: ks, v :: vs => (cstOf k).bind fun ck => (cstOf v).bind fun cv => (keyC ck).bind fun kk => (constD cv).bind fun d => (constV cv).bind fun w => (dcOf ks vs).bind fun r => some ((keyD kk, d) :: r.1, (kk, w) :: r.2)
  | _, _ => none
theorem dcOf_spec {K : PySem.W.Frag} : ∀ {ks : List (Option Expr)} {vs : List Expr} {ds : List (PyData × PyData)} {kvs : List (Key × V)}, dcOf ks vs = some (ds, kvs) →
    PPs X pos ks vs (kvs.map fun p => (tC (kV p.1), tC p.2)) ∧ ks.all (·.isSome) = true ∧ ks.length = vs.length ∧ ks.length = kvs.length ∧ ds.map (·.1) = kvs.map (fun p => keyD p.1) ∧ ∀ {ι H}, RDs K ι H (ds.map (·.2)) (kvs.map (·.2))
  | [], [], ds, kvs, e => by
    unfold dcOf at e; cases e
    exact ⟨pps_nil, rfl, rfl, rfl, rfl, .nil⟩
  | some k :: ks, v :: vs, ds, kvs, e => by
    unfold dcOf at e
    simp only [Option.bind_eq_some_iff] at e
    obtain ⟨ck, h1, cv, h2, kk, h3, d, h4, w, h5, r, h6, h7⟩ := e
    cases h7
    obtain ⟨j1, p1, rfl⟩ := cstOf_spec h1
    obtain ⟨j2, p2, rfl⟩ := cstOf_spec h2
    obtain ⟨q1, q2, q3, q4, q5, q6⟩ := dcOf_spec (K := K) (ds := r.1) (kvs := r.2) h6
    have hk : PE X (.Constant ck j1 p1) (tC (kV kk)) := pe_const (by cases ck <;> simp only [keyC] at h3 <;> cases h3 <;> rfl)
    exact ⟨pps_cons hk (pe_const h5) q1, by simpa using q2, by simp [q3], by simp [q4], by simp [q5], .cons (constV_rd h4 h5) q6⟩
  | [], _ :: _, _, _, e => by simp [dcOf] at e
  | none :: _, _, _, _, e => by simp [dcOf] at e
  | some k :: _, [], _, _, e => by simp [dcOf] at e
theorem tPairs_c {σ : L2.St} {H : Hp} : ∀ {kvs : List (Key × V)} {Q : List (V × V) → Hp → Prop}, Q (kvs.map fun kv => (kV kv.1, kv.2)) H → tPairs (kvs.map fun p => (tC (kV p.1), tC p.2)) σ H Q
  | [], Q, h => h
  | p :: r, Q, h => tPairs_c (kvs := r) (Q := fun ps H3 => Q ((kV p.1, p.2) :: ps) H3) h
theorem putK_new {kvs : List (Key × V)} {k : Key} {v : V} (h : k ∉ kvs.map (·.1)) : putK kvs k v = kvs ++ [(k, v)] := by
  unfold putK
  rw [if_neg]
  intro q
  rw [List.any_eq_true] at q
  obtain ⟨p, hp, e⟩ := q
  exact h (List.mem_map.mpr ⟨p, hp, of_decide_eq_true e⟩)
theorem mergeK_new : ∀ {more acc : List (Key × V)}, ((acc ++ more).map (·.1)).Nodup → mergeK acc more = acc ++ more
  | [], acc, _ => by simp [mergeK]
  | p :: r, acc, h => by
    show mergeK (putK acc p.1 p.2) r = _
    have hp : p.1 ∉ acc.map (·.1) := fun z => by
      rw [List.map_append, List.map_cons, List.nodup_append] at h
      exact h.2.2 _ z _ List.mem_cons_self rfl
    rw [putK_new hp]
    have e : (acc ++ [(p.1, p.2)]) ++ r = acc ++ p :: r := by simp
    rw [mergeK_new (by rw [e]; exact h), e]
theorem snd_dcs {ks : List (Option Expr)} {vs : List Expr} {ds : List (PyData × PyData)} {kvs : List (Key × V)} (e : dcOf ks vs = some (ds, kvs)) (hne : ks ≠ []) (hnd : (kvs.map (·.1)).Nodup) : snd X er C (.Dict ks vs pos) (.dcs ds) := by
  obtain ⟨h1, h2, h3, h4, h5, h6⟩ := dcOf_spec (X := X) (pos := pos) (K := X.K) e
  have hl : ds.length = ks.length := by rw [h4]; simpa using congrArg List.length h5
  refine ⟨fun pins s σ H Q I ⟨E, S, ι, hE, hS, h⟩ => ?_⟩
  unfold ev at h
  obtain ⟨h15, h⟩ := Post.ite h
  refine (pe_disp h1 h2 h3 hne (by omega)).run pins s σ H Q I fun p hp => tPairs_c ⟨upd_same, kvs, rfl, by omega, ?_⟩
  rw [mergeK_new (by simpa using hnd), List.nil_append, upd_upd]
  have st : Step ι H ι (upd H p (.dK kvs)) := Step.same (same_upd hp)
  refine h ι _ st (hS.same (same_upd hp)) (.ref p) ⟨p, rfl, hp, fresh_off hS hp, ?_⟩
  exact hS.pushed (same_upd hp) hp (.inl ⟨kvs, upd_same, ⟨fun z => hne (List.eq_nil_of_length_eq_zero (by rw [← hl, z]; rfl)), h5⟩, h6⟩)
theorem snd_dcs0 : snd X er C (.Dict [] [] pos) (.dcs []) := by
  refine PE.weak pe_dnewT fun σ H Q ⟨E, S, ι, hE, hS, h⟩ p hp => ?_
  unfold ev at h
  obtain ⟨_, h⟩ := Post.ite h
  exact h ι _ (Step.same (same_upd hp)) (hS.same (same_upd hp)) (.ref p) ⟨p, rfl, hp, fresh_off hS hp, hS.pushed (same_upd hp) hp (.inr ⟨[], upd_same, rfl, .nil⟩)⟩
end
end Lf

set_option Elab.async false
set_option linter.all false
set_option maxRecDepth 100000
set_option maxHeartbeats 4000000
/-! A look that a written def and its small form agree. -/
namespace Lf
open PySem PySem.Spec PyProof.Rows L2

structure Tab where
  fns : List Str
  cst : List (Str × PyData)
  bls : List Str
  dfl : List (Str × List PyData)
  tups : List (Str × List Str)
/-- where one stands: slots, the scope as written, the scope as it lies -/
structure Pl where
  N : List Str
  raw : Scope
  sc : Scope

def isStar : Expr → Bool
  | .Starred .. => true
  | _ => false
def isComp : Expr → Bool
  | .ListComp .. | .SetComp .. | .DictComp .. => true
  | _ => false
def isSetE : Expr → Bool
  | .Set .. => true
  | _ => false
def isTupE : Expr → Bool
  | .Tuple .. => true
  | _ => false
def isSliceE : Expr → Bool
  | .Slice .. => true
  | _ => false
def isNameE : Expr → Bool
  | .Name .. => true
  | _ => false
/-- what stands ahead of a method's name: no call -/
def isBaseE : Expr → Bool
  | .Call .. => false
  | _ => true
def atomEq : PyData → PyData → Bool
  | .none, .none => true
  | .bool a, .bool b => a == b
  | .int a, .int b => a == b
  | .str a, .str b => decide (a = b)
  | _, _ => false
theorem atomEq_eq : ∀ {a b : PyData}, atomEq a b = true → a = b := by
  intro a b h
  cases a <;> cases b <;> simp only [atomEq] at h <;> first | rfl | (cases h; done) | skip
  · rw [eq_of_beq h]
  · rw [eq_of_beq h]
  · rw [of_decide_eq_true h]
def constIs (c : Const) (d : PyData) : Bool := match constD c with
  | some x => atomEq x d
  | none => false
theorem constIs_eq {c : Const} {d : PyData} (h : constIs c d = true) : constD c = some d := by
  unfold constIs at h
  split at h
  · rename_i x e; rw [e, atomEq_eq h]
  · cases h
def kvsEq : List (PyData × PyData) → List (PyData × PyData) → Bool
  | [], [] => true
  | a :: as, b :: bs => atomEq a.1 b.1 && atomEq a.2 b.2 && kvsEq as bs
  | _, _ => false
theorem kvsEq_eq : ∀ {a b : List (PyData × PyData)}, kvsEq a b = true → a = b
  | [], [], _ => rfl
  | a :: as, b :: bs, h => by
    simp only [kvsEq, Bool.and_eq_true] at h
    have h1 := atomEq_eq h.1.1
    have h2 := atomEq_eq h.1.2
    rw [kvsEq_eq h.2, Prod.ext h1 h2]
  | [], _ :: _, h => by simp [kvsEq] at h
  | _ :: _, [], h => by simp [kvsEq] at h

def visB (sc : Scope) (n : Str) : Bool := match sc.names.lookup n with
  | some .local | some .cell | some .free => true
  | _ => false
theorem visB_vis {sc : Scope} {n : Str} (h : visB sc n = true) : Vis sc n := by
  unfold visB at h
  split at h <;> first | exact .inl (by assumption) | exact .inr (.inl (by assumption)) | exact .inr (.inr (by assumption)) | cases h
def locB (p : Pl) (n : Str) : Bool := match p.sc.names.lookup n with
  | some .local => true
  | some .cell => (match p.raw.names.lookup n with
    | some .cell => true
    | _ => false)
  | _ => false
def glB (sc : Scope) (n : Str) : Bool := match sc.names.lookup n with
  | some .globalImplicit => true
  | _ => false
theorem glB_gl {sc : Scope} {n : Str} (h : glB sc n = true) : sc.names.lookup n = some .globalImplicit := by
  unfold glB at h
  split at h
  · assumption
  · cases h
def isAt (N : List Str) (i : Nat) (n : Str) : Bool := match N[i]? with
  | some m => decide (m = n)
  | none => false
theorem isAt_at {N : List Str} {i : Nat} {n : Str} (h : isAt N i n = true) : N[i]? = some n := by
  unfold isAt at h
  split at h
  · rename_i m e; rw [e, of_decide_eq_true h]
  · cases h
def plainName (n : Str) : Bool := !(n == ("__debug__" : Str)) && !(n == ("__classdict__" : Str))
def bltName : BF → Option (Str × Bool)
  | .all => some ("all", false)
  | .any => some ("any", false)
  | .max2 => some ("max", false)
  | .min2 => some ("min", false)
  | .maxl => some ("max", false)
  | .minl => some ("min", false)
  | .sortedR => some ("sorted", false)
  | .repr => some ("repr", false)
  | .str => some ("str", true)
  | .int => some ("int", true)
  | .sorted => some ("sorted", false)
  | .list => some ("list", true)
  | .tuple => some ("tuple", true)
  | .dict => some ("dict", true)
  | _ => none
def mthName : MF → Option Str
  | .append => some "append"
  | .pop => some "pop"
  | .popat => some "pop"
  | .insert => some "insert"
  | .extend => some "extend"
  | .clear => some "clear"
  | .reverse => some "reverse"
  | _ => none
def smtName : MF → Option Str
  | .upper => some "upper"
  | .join => some "join"
  | .split => some "split"
  | _ => none
def atomsEq : List PyData → List PyData → Bool
  | [], [] => true
  | a :: as, b :: bs => atomEq a b && atomsEq as bs
  | _, _ => false
def relS (sc scope : Scope) : Scope :=
  { scope with names := scope.names.map fun (n, k) => if (k == .free && sc.kind == .function && sc.names.lookup n == some .cell) then (n, .cell) else (n, k) }
def Pl.blk (p : Pl) (scope : Scope) : Pl := ⟨p.N, scope, relS p.sc scope⟩
def ownOf (N : List Str) (own : List Nat) : List (Str × Nat) := own.map fun i => (N.getD i "", i)
def tysOk (Γ : Tab) (p : Pl) : List TY → List Expr → Bool
  | [], [] => true
  | t :: ts, .Name n _ :: es => decide (n = Str.ofString (tyN t)) && glB p.sc n && decide (n ∈ Γ.bls) && tysOk Γ p ts es
  | _, _ => false
mutual
def okG (p : Pl) : Tg → Expr → Bool
  | .nm i, e => (match e with
    | .Name n _ => isAt p.N i n && locB p n
    | _ => false)
  | .tp ts, e => (match e with
    | .Tuple es _ _ => okGs p ts es
    | _ => false)
def okGs (p : Pl) : Tgs → List Expr → Bool
  | .nil, es => (match es with
    | [] => true
    | _ => false)
  | .cons t ts, es => (match es with
    | e :: es => !isStar e && okG p t e && okGs p ts es
    | [] => false)
end
/-- a walk over a dict -/
def isD : Ir → Bool
  | .keys _ | .items _ => true
  | _ => false
def okD (p : Pl) (it : Ir) (tg iter : Expr) : Bool := match it with
  | .keys i => (match iter with
    | .Name n _ => isAt p.N i n && visB p.sc n && plainName n
    | _ => false)
  | .items i => (match iter with
    | .Call (.Attribute (.Name n _) m apos) [] [] cpos => decide (m = "items") && isAt p.N i n && visB p.sc n && plainName n && (apos.endLine == cpos.line) && isTupE tg
    | _ => false)
  | _ => false
/-- enumerate and zip want a row of names -/
def tgB : Ir → Expr → Bool
  | .enum _, tg => isTupE tg
  | .zip _ _, tg => isTupE tg
  | _, _ => true
def isDC : Ex → Bool
  | .mut x => isDC x
  | .fz x => isDC x
  | .comp _ _ it _ _ => isD it
  | _ => false
def okGl (Γ : Tab) (p : Pl) (n : Str) : Bool := glB p.sc n && decide (n ∈ Γ.bls)
mutual
def okE (Γ : Tab) (p : Pl) : Ex → Expr → Bool
  | .var i, e => (match e with
    | .Name n _ => isAt p.N i n && visB p.sc n && plainName n
    | _ => false)
  | .cst c, e => (match e with
    | .Constant k _ _ => constIs k c
    | _ => false)
  | .glb x c, e => (match e with
    | .Name n _ => decide (n = x) && glB p.sc n && plainName n && (match Γ.cst.lookup n with
      | some d => atomEq d c
      | none => false)
    | _ => false)
  | .tup xs, e => (match e with
    | .Tuple es _ _ => okEs Γ p xs es
    | _ => false)
  | .dis xs, e => (match e with
    | .List es _ => okEs Γ p xs es
    | _ => false)
  | .dcs kvs, e => (match e with
    | .Dict ks vs _ => (match ks, vs with
      | [], [] => kvs.isEmpty
      | k :: ks, vs => (match dcOf (k :: ks) vs with
        | some r => kvsEq r.1 kvs && decide (r.2.map (·.1)).Nodup
        | none => false)
      | _, _ => false)
    | _ => false)
  | .dgt x y, e => (match e with
    | .Call (.Attribute o n apos) [k] [] pos => decide (n = "get") && isBaseE o && okE Γ p x o && okE Γ p y k && !isStar k && (apos.endLine == pos.line)
    | _ => false)
  | .dgt2 x y z, e => (match e with
    | .Call (.Attribute o n apos) [k, d] [] pos => decide (n = "get") && isBaseE o && okE Γ p x o && okE Γ p y k && okE Γ p z d && !isStar k && !isStar d && (apos.endLine == pos.line)
    | _ => false)
  | .dpop x y z, e => (match e with
    | .Call (.Attribute o n apos) [k, d] [] pos => decide (n = "pop") && isBaseE o && okE Γ p x o && okE Γ p y k && okE Γ p z d && !isStar k && !isStar d && (apos.endLine == pos.line)
    | _ => false)
  | .sset x, e => (match e with
    | .Call (.Name n _) [.Call (.Name m _) [a] [] _] [] _ => decide (n = "sorted") && decide (m = "set") && okGl Γ p n && okGl Γ p m && !isStar a && okE Γ p x a
    | _ => false)
  | .dcomp own t it c k x, e => (match e with
    | .DictComp kx vx [⟨tg, iter, ifs, asy⟩] scope _ => decide (asy = 0) && decide ((ownOf p.N own).map (·.2) = own) && blkC p.N p.sc scope (ownOf p.N own) && okI Γ p it iter && tgB it tg && !isSetE iter && okG (p.blk scope) t tg &&
      (match ifs with
        | [] => (match c with
          | .cst (.bool true) => true
          | _ => false)
        | [f] => okT Γ (p.blk scope) c f
        | _ => false) && okE Γ (p.blk scope) k kx && okE Γ (p.blk scope) x vx
    | _ => false)
  | .mut x, e => okE Γ p x e
  | .fz x, e => okE Γ p x e
  | .bin o x y, e => (match e with
    | .BinOp a op b _ => decide (op = opB o) && okE Γ p x a && okE Γ p y b
    | _ => false)
  | .neg x, e => (match e with
    | .UnaryOp .USub a _ => okE Γ p x a
    | _ => false)
  | .not x, e => (match e with
    | .UnaryOp .Not a _ => okE Γ p x a
    | _ => false)
  | .and x y, e => (match e with
    | .BoolOp .And (a :: b :: rest) pos => okE Γ p x a && (match rest with
      | [] => okE Γ p y b
      | _ => okE Γ p y (.BoolOp .And (b :: rest) pos))
    | _ => false)
  | .or x y, e => (match e with
    | .BoolOp .Or (a :: b :: rest) pos => okE Γ p x a && (match rest with
      | [] => okE Γ p y b
      | _ => okE Γ p y (.BoolOp .Or (b :: rest) pos))
    | _ => false)
  | .cmp o x y, e => (match e with
    | .Compare a [op] [b] _ => decide (op = opC o) && okE Γ p x a && okE Γ p y b && !isSetE b
    | _ => false)
  | .chn o o' x y z, e => (match e with
    | .Compare a [op, op'] [b, c] _ => decide (op = opC o) && decide (op' = opC o') && okE Γ p x a && okE Γ p y b && okE Γ p z c && !isSetE c
    | _ => false)
  | .ite t x y, e => (match e with
    | .IfExp c a b _ => okT Γ p t c && okE Γ p x a && okE Γ p y b
    | _ => false)
  | .idx x y, e => (match e with
    | .Subscript a i _ => okE Γ p x a && okE Γ p y i && !isSliceE i
    | _ => false)
  | .len x, e => (match e with
    | .Call (.Name n _) [a] [] _ => decide (n = "len") && okGl Γ p n && !isStar a && okE Γ p x a
    | _ => false)
  | .lens x, e => (match e with
    | .Call (.Name n _) [.Call (.Name m _) [a] [] _] [] _ => decide (n = "len") && decide (m = "set") && okGl Γ p n && okGl Γ p m && !isStar a && okE Γ p x a
    | _ => false)
  | .sl x y z, e => (match e with
    | .Subscript a (.Slice lo hi none _) _ => okE Γ p x a && (match lo with
        | none => isAbs y
        | some l => !isAbs y && okE Γ p y l) && (match hi with
        | none => isAbs z
        | some l => !isAbs z && okE Γ p z l)
    | _ => false)
  | .rev x, e => (match e with
    | .Subscript a (.Slice none none (some (.UnaryOp .USub (.Constant (.int 1) _ _) _)) _) _ => okE Γ p x a
    | _ => false)
  | .comp own t it c x, e => (match e with
    | .ListComp elt [⟨tg, iter, ifs, asy⟩] scope _ => decide (asy = 0) && decide ((ownOf p.N own).map (·.2) = own) && blkC p.N p.sc scope (ownOf p.N own) && (if isD it then okD p it tg iter else okI Γ p it iter) && tgB it tg && !isSetE iter && okG (p.blk scope) t tg &&
      (match ifs with
        | [] => (match c with
          | .cst (.bool true) => true
          | _ => false)
        | [f] => okT Γ (p.blk scope) c f
        | _ => false) && okE Γ (p.blk scope) x elt
    | _ => false)
  | .call k xs, e => (match e with
    | .Call (.Name n _) (a :: es) [] _ => isAt Γ.fns k n && glB p.sc n && plainName n && okEs Γ p xs (a :: es)
    | _ => false)
  | .calld k xs ds, e => (match e with
    | .Call (.Name n _) (a :: es) [] _ => isAt Γ.fns k n && glB p.sc n && plainName n && okEs Γ p xs (a :: es) && (match Γ.dfl.lookup n with
      | some d => atomsEq d ds
      | none => false)
    | _ => false)
  | .inG x nm ys, e => (match e with
    | .Compare a [.In] [.Name n _] _ => decide (n = nm) && glB p.sc n && plainName n && okE Γ p x a && (match Γ.tups.lookup n with
      | some zs => decide (zs = ys)
      | none => false)
    | _ => false)
  | .blt f xs, e => (match e with
    | .Call (.Name n _) (a :: es) [] _ => (match bltName f with
      | some r => decide (n = r.1) && okGl Γ p n && okEs Γ p xs (a :: es)
      | none => false)
    | _ => false)
  | .mth f x xs, e => (match e with
    | .Call (.Attribute o n apos) args [] pos => (match mthName f with
      | some m => decide (n = m) && isNameE o && okE Γ p x o && okEs Γ p xs args && (apos.endLine == pos.line) && decide (args.length < 30)
      | none => false)
    | _ => false)
  | .smt f x xs, e => (match e with
    | .Call (.Attribute o n apos) args [] pos => (match smtName f with
      | some m => decide (n = m) && isBaseE o && okE Γ p x o && okEs Γ p xs args && (apos.endLine == pos.line) && decide (args.length < 30)
      | none => false)
    | _ => false)
  | .isa x ts, e => (match e with
    | .Call (.Name n _) [a, ty] [] _ => decide (n = "isinstance") && okGl Γ p n && !isStar a && okE Γ p x a && (match ty with
      | .Name m q => tysOk Γ p ts [.Name m q]
      | .Tuple es _ _ => tysOk Γ p ts es && decide (ts.length ≤ 10)
      | _ => false)
    | _ => false)
def okT (Γ : Tab) (p : Pl) : Ex → Expr → Bool
  | .not x, e => (match e with
    | .UnaryOp .Not a _ => okT Γ p x a
    | _ => false)
  | .and x y, e => (match e with
    | .BoolOp .And (a :: b :: rest) pos => okT Γ p x a && (match rest with
      | [] => okT Γ p y b
      | _ => okT Γ p y (.BoolOp .And (b :: rest) pos))
    | _ => false)
  | .or x y, e => (match e with
    | .BoolOp .Or (a :: b :: rest) pos => okT Γ p x a && (match rest with
      | [] => okT Γ p y b
      | _ => okT Γ p y (.BoolOp .Or (b :: rest) pos))
    | _ => false)
  | .cmp o x y, e => (match e with
    | .Compare a [op] [b] _ => decide (op = opC o) && okE Γ p x a && okE Γ p y b && !isSetE b
    | _ => false)
  | .chn o o' x y z, e => (match e with
    | .Compare a [op, op'] [b, c] _ => decide (op = opC o) && decide (op' = opC o') && okE Γ p x a && okE Γ p y b && okE Γ p z c && !isSetE c
    | _ => false)
  | .var i, e => (match e with
    | .Name n _ => isAt p.N i n && visB p.sc n && plainName n
    | _ => false)
  | .call k xs, e => (match e with
    | .Call (.Name n _) (a :: es) [] _ => isAt Γ.fns k n && glB p.sc n && plainName n && okEs Γ p xs (a :: es)
    | _ => false)
  | .blt f xs, e => (match e with
    | .Call (.Name n _) (a :: es) [] _ => (match bltName f with
      | some r => decide (n = r.1) && okGl Γ p n && okEs Γ p xs (a :: es)
      | none => false)
    | _ => false)
  | .isa x ts, e => (match e with
    | .Call (.Name n _) [a, ty] [] _ => decide (n = "isinstance") && okGl Γ p n && !isStar a && okE Γ p x a && (match ty with
      | .Name m q => tysOk Γ p ts [.Name m q]
      | .Tuple es _ _ => tysOk Γ p ts es && decide (ts.length ≤ 10)
      | _ => false)
    | _ => false)
  | .inG x nm ys, e => (match e with
    | .Compare a [.In] [.Name n _] _ => decide (n = nm) && glB p.sc n && plainName n && okE Γ p x a && (match Γ.tups.lookup n with
      | some zs => decide (zs = ys)
      | none => false)
    | _ => false)
  | _, _ => false
def okEs (Γ : Tab) (p : Pl) : Exs → List Expr → Bool
  | .nil, es => (match es with
    | [] => true
    | _ => false)
  | .cons x xs, es => (match es with
    | e :: es => !isStar e && okE Γ p x e && okEs Γ p xs es
    | [] => false)
def okI (Γ : Tab) (p : Pl) : Ir → Expr → Bool
  | .x x, e => okE Γ p x e
  | .rng x, e => (match e with
    | .Call (.Name n _) [a] [] _ => decide (n = "range") && okGl Γ p n && !isStar a && okE Γ p x a
    | _ => false)
  | .rng2 x y, e => (match e with
    | .Call (.Name n _) [a, b] [] _ => decide (n = "range") && okGl Γ p n && !isStar a && !isStar b && okE Γ p x a && okE Γ p y b
    | _ => false)
  | .enum x, e => (match e with
    | .Call (.Name n _) [a] [] _ => decide (n = "enumerate") && okGl Γ p n && !isStar a && okE Γ p x a
    | _ => false)
  | .zip x y, e => (match e with
    | .Call (.Name n _) [a, b] [] _ => decide (n = "zip") && okGl Γ p n && !isStar a && !isStar b && okE Γ p x a && okE Γ p y b
    | _ => false)
  | _, _ => false
end
/-- a row of names, one of which is no plain local -/
def offL (p : Pl) : Expr → Bool
  | .Tuple ts _ _ => ts.any fun t => match t with
    | .Name n _ => !(match p.sc.names.lookup n with
      | some .local => true
      | _ => false)
    | _ => false
  | _ => false
/-- a value that is kept, in brackets of mut and fz, maybe a comprehension made in place -/
def bare : Ex → Ex
  | .mut x => bare x
  | .fz x => bare x
  | x => x
mutual
def okS (Γ : Tab) (p : Pl) : Sm → Stmt → Bool
  | .asg t x, s => (match s with
    | .Assign [tg] e pos => (match t with
      | .nm _ => okG p t tg && okE Γ p x e && (match e with
        | .ListComp .. => (match tg with
          | .Name n py => (match p.sc.names.lookup n with
            | some .local => decide (py.line = e.pos.line) && (match e with
              | .ListComp _ _ scope _ => !isDC x && !(scope.names.any fun (m, k) => m == n && (k == .local || k == .cell)) && decide (p.sc.kind = .function)
              | _ => false)
            | some .cell => true
            | _ => false)
          | _ => false)
        | .DictComp _ _ _ scope cp => (match tg with
          | .Name n py => (match p.sc.names.lookup n with
            | some .local => decide (py.line = cp.line) && !(scope.names.any fun (m, k) => m == n && (k == .local || k == .cell)) && decide (p.sc.kind = .function)
            | _ => false)
          | _ => false)
        | _ => !isComp e)
      | .tp _ => okG p t tg && okE Γ p x e && !isComp e && (!isTupE e || offL p tg))
    | _ => false)
  | .star i j x, s => (match s with
    | .Assign [.Tuple [.Name n _, .Starred (.Name m _) _] _ _] e _ => isAt p.N i n && isAt p.N j m && decide (i ≠ j) && (match p.sc.names.lookup n, p.sc.names.lookup m with
      | some .local, some .local => true
      | _, _ => false) && okE Γ p x e && !isComp e && !isTupE e
    | _ => false)
  | .par i j x y, s => (match s with
    | .Assign [.Tuple [.Name n px, .Name m py] _ _] (.Tuple [a, b] _ _) _ => isAt p.N i n && isAt p.N j m && decide (i ≠ j) && (match p.sc.names.lookup n, p.sc.names.lookup m with
      | some .local, some .local => true
      | _, _ => false) && decide (p.sc.kind = .function) && decide (n ≠ m) && decide (px.line = py.line) && okEs Γ p (.cons x (.cons y .nil)) [a, b] && !([a, b].all (foldedForSure 8)) && !([a, b].all (constantsAlone 8))
    | _ => false)
  | .par3 i j k x y z, s => (match s with
    | .Assign [.Tuple [.Name n px, .Name m py, .Name o pz] _ _] (.Tuple [a, b, c] _ _) _ => isAt p.N i n && isAt p.N j m && isAt p.N k o && decide (i ≠ j) && decide (i ≠ k) && decide (j ≠ k) && (match p.sc.names.lookup n, p.sc.names.lookup m, p.sc.names.lookup o with
      | some .local, some .local, some .local => true
      | _, _, _ => false) && decide (p.sc.kind = .function) && decide (n ≠ m) && decide (n ≠ o) && decide (m ≠ o) && decide (px.line = py.line) && decide (px.line = pz.line) && okEs Γ p (.cons x (.cons y (.cons z .nil))) [a, b, c] && !([a, b, c].all (foldedForSure 8)) && !([a, b, c].all (constantsAlone 8))
    | _ => false)
  | .setI x y z, s => (match s with
    | .Assign [.Subscript o i _] e _ => okE Γ p z e && okE Γ p x o && okE Γ p y i && !isSliceE i && !isComp e
    | _ => false)
  | .expr x, s => (match s with
    | .Expr e _ => okE Γ p x e && !isComp e
    | _ => false)
  | .ret x, s => (match s with
    | .Return (some e) _ => okE Γ p x e
    | _ => false)
  | .retN, s => (match s with
    | .Return none _ => true
    | _ => false)
  | .ite x a b, s => (match s with
    | .If c A B _ => okT Γ p x c && okSs Γ p a A && okSs Γ p b B
    | _ => false)
  | .loop t it b, s => (match s with
    | .For tg iter body [] _ => okG p t tg && (if isD it then okD p it tg iter else okI Γ p it iter) && tgB it tg && !isSetE iter && okSs Γ p b body
    | _ => false)
  | .whl x b, s => (match s with
    | .While c body [] _ => okT Γ p x c && okSs Γ p b body
    | _ => false)
  | .pass, s => (match s with
    | .Pass _ => true
    | _ => false)
  | .brk, s => (match s with
    | .Break _ => true
    | _ => false)
  | .cnt, s => (match s with
    | .Continue _ => true
    | _ => false)
  | .raise _ _, _ => true
  | _, _ => false
def okSs (Γ : Tab) (p : Pl) : Sms → List Stmt → Bool
  | .nil, ss => (match ss with
    | [] => true
    | _ => false)
  | .cons m ms, ss => (match m with
    | .frz _ => okSs Γ p ms ss
    | m => (match ss with
      | s :: ss => okS Γ p m s && okSs Γ p ms ss
      | [] => false))
end
end Lf

set_option Elab.async false
set_option linter.all false
set_option maxRecDepth 100000
set_option maxHeartbeats 4000000
/-! The look is sound. -/
namespace Lf
open PySem PySem.Spec PyProof.Rows L2

structure Ag (Γ : Tab) (C : CallT) (p : Pl) (X : Cx) : Prop where
  sur : Sur X
  xe : X.xe = fun _ _ => False
  nm : X.N = p.N
  sc : X.env.scope = p.sc
  st : ∀ n, p.raw.names.lookup n = some .cell → X.fn n = true
  fns : ∀ (k : Nat) (n : Str), Γ.fns[k]? = some n → ∃ kk, Room kk X.A ∧ CalG X.prog X.w X.K X.mg X.base kk n (Γ.dfl.lookup n) (fun us H Q => ∃ er, rCal X.K er C k us H Q)
  cst : ∀ n c, Γ.cst.lookup n = some c → ∃ u v, X.mg n = some u ∧ atomV1 c = some v ∧ RelV v u
  bls : ∀ n, n ∈ Γ.bls → X.mg n = none
  tups : ∀ n ys, Γ.tups.lookup n = some ys → ∃ T, X.mg n = some (.ref T) ∧ SqT X.K noHp T (ys.map V.str)
section
variable {Γ : Tab} {C : CallT} {p : Pl} {X : Cx}
theorem Ag.gl (g : Ag Γ C p X) {n : Str} (h : glB p.sc n = true) : Gl X n := by
  show X.env.scope.names.lookup n = _
  rw [g.sc]
  exact glB_gl h
theorem Ag.okGl (g : Ag Γ C p X) {n : Str} (h : okGl Γ p n = true) : Gl X n ∧ X.mg n = none := by
  unfold Lf.okGl at h
  rw [Bool.and_eq_true, decide_eq_true_eq] at h
  exact ⟨g.gl h.1, g.bls n h.2⟩
theorem Ag.at' (g : Ag Γ C p X) {i : Nat} {n : Str} (h : isAt p.N i n = true) : X.N[i]? = some n := by
  rw [g.nm]; exact isAt_at h
theorem Ag.loc (g : Ag Γ C p X) {n : Str} (h : locB p n = true) : Loc X.env.scope n ∧ (X.fn n = true ∨ X.env.scope.names.lookup n = some .local) := by
  rw [g.sc]
  unfold locB at h
  split at h
  · exact ⟨.inl (by assumption), .inr (by assumption)⟩
  · split at h
    · exact ⟨.inr (by assumption), .inl (g.st n (by assumption))⟩
    · cases h
  · cases h
theorem Ag.blk (g : Ag Γ C p X) {s : Shared} {H : Hp} {scope : Scope} {A : Addr} {cl : List (Str × Addr)} {fp : List Addr} : Ag Γ C (p.blk scope) (X.blk s H scope (compEnvC scope cl A X.env) fp) where
  sur := ⟨g.sur.calm, g.sur.nd, g.sur.gd, g.sur.un⟩
  xe := rfl
  nm := g.nm
  sc := by
    show relabel scope X.env = relS p.sc scope
    rw [← g.sc]
    rfl
  st := fun n h => by
    show (scope.names.lookup n == some NameKind.cell) = true
    have h : scope.names.lookup n = some .cell := h
    rw [h]; rfl
  fns := g.fns
  cst := g.cst
  bls := g.bls
  tups := g.tups
theorem Ag.call (g : Ag Γ C p X) {k : Nat} {n : Str} (h : isAt Γ.fns k n = true) : ∃ f, (∀ er, CallR X (.ref f) (rFn X.K er C k)) ∧ X.mg n = some (.ref f) ∧ PySem.W.keepIn X.K (.ref f) = true := by
  obtain ⟨kk, hr, f, fd, ps, F, h1, h2, h3, _⟩ := g.fns k n (isAt_at h)
  exact ⟨f, fun er pins s σ H us vs Q I r h => run_fnG F hr g.sur.gd h3 pins s σ H us vs Q I r ⟨er, rFn_cal h⟩, h1, h2⟩
theorem Ag.calld (g : Ag Γ C p X) {k : Nat} {n : Str} {dd : List PyData} (h : isAt Γ.fns k n = true) (hd : Γ.dfl.lookup n = some dd) :
    ∃ f dvs, atomsV dd = some dvs ∧ (∀ er, CallR X (.ref f) (fun us H Q => rFn X.K er C k (us ++ dvs) H Q)) ∧ X.mg n = some (.ref f) ∧ PySem.W.keepIn X.K (.ref f) = true := by
  obtain ⟨kk, hr, f, fd, ps, F, h1, h2, _, h4⟩ := g.fns k n (isAt_at h)
  obtain ⟨ds, dvs, e, rd, bd⟩ := h4 dd hd
  exact ⟨f, dvs, e, fun er pins s σ H us vs Q I r h => run_fnD F hr g.sur.gd bd rd pins s σ H us vs Q I r ⟨er, rFn_cal h⟩, h1, h2⟩
theorem atomsEq_eq : ∀ {a b : List PyData}, atomsEq a b = true → a = b
  | [], [], _ => rfl
  | a :: as, b :: bs, h => by
    simp only [atomsEq, Bool.and_eq_true] at h
    rw [atomEq_eq h.1, atomsEq_eq h.2]
  | [], _ :: _, h => by simp [atomsEq] at h
  | _ :: _, [], h => by simp [atomsEq] at h
theorem Ag.pass (g : Ag Γ C p X) : PassesOwn (model X.prog X.w) X.A X.env X.xe := by
  rw [g.xe]; exact PassesOwn.never

/-! ### facts of the written text -/
theorem star_eq {e : Expr} {es : List Expr} {env : PySem.Env} (h : isStar e = false) : starEach (e :: es) env = (false, eval e env) :: starEach es env := by
  cases e <;> first | rfl | cases h
theorem star_any {pos : Pos} {env : PySem.Env} : ∀ {es : List Expr}, es.all (fun e => !isStar e) = true → (backTo pos (starEach es env)).any (·.1) = false
  | [], _ => rfl
  | e :: es, h => by
    rw [List.all_cons, Bool.and_eq_true] at h
    rw [star_eq (by simpa using h.1)]
    show (false || (backTo pos (starEach es env)).any (·.1)) = false
    rw [star_any h.2]; rfl
theorem star_all {pos : Pos} {env : PySem.Env} : ∀ {es : List Expr}, es.all (fun e => !isStar e) = true → (backTo pos (starEach es env)).all (fun x => !x.1) = true
  | [], _ => rfl
  | e :: es, h => by
    rw [List.all_cons, Bool.and_eq_true] at h
    rw [star_eq (by simpa using h.1)]
    show (true && (backTo pos (starEach es env)).all (fun x => !x.1)) = true
    rw [star_all h.2]; rfl
theorem okEs_star {xs : Exs} : ∀ {es : List Expr}, okEs Γ p xs es = true → es.all (fun e => !isStar e) = true := by
  intro es
  induction es generalizing xs with
  | nil => intro _; rfl
  | cons e es ih =>
    intro h
    cases xs with
    | nil => simp [okEs] at h
    | cons x xs =>
      simp only [okEs, Bool.and_eq_true] at h
      rw [List.all_cons, h.1.1, ih h.2]; rfl
theorem asg_eq {e : Expr} {es : List Expr} {env : PySem.Env} (h : isStar e = false) : assignEach (e :: es) env = (false, assign e env) :: assignEach es env := by
  cases e <;> first | rfl | cases h
theorem set_plain {e : Expr} {env : PySem.Env} (h : isSetE e = false) : ∀ x, foldedSetIterable e env x = pure x := fun x => by
  cases e <;> first | rfl | cases h
theorem marks_plain {op : CmpOp} {e : Expr} (h : isSetE e = false) : behindInMarks op e = false := by
  cases e <;> first | rfl | cases h
theorem swaps_plain {e : Expr} {t : Option Expr} {l : Nat} {env : PySem.Env} (h : isComp e = false) : swapsWith e t l env = pure false := by
  cases e <;> first | rfl | cases h
theorem swapped_plain {t e : Expr} {env : PySem.Env} (h : isTupE e = false) : swappedStores [t] e env = pure none := by
  cases e <;> first | (cases h; done) | (cases t <;> rfl)
theorem swapped_sub {o i e : Expr} {tp : Pos} {env : PySem.Env} : swappedStores [.Subscript o i tp] e env = pure none := by
  cases e <;> rfl
theorem plainIx {e : Expr} (h : isSliceE e = false) : PlainIx e := fun o i => by
  cases e <;> first | rfl | cases h
theorem base_name {o : Expr} {n : Str} {env : PySem.Env} (h : isNameE o = true) : attributeBase o n env (eval o env) = eval o env := by
  cases o <;> first | rfl | cases h
theorem base_e {o : Expr} {n : Str} {env : PySem.Env} (h : isBaseE o = true) : attributeBase o n env (eval o env) = eval o env := by
  cases o <;> first | rfl | cases h
theorem asg_sub {o i : Expr} {tp : Pos} {env : PySem.Env} (h : isSliceE i = false) : ∀ v, assign (.Subscript o i tp) env v = (do
      let ov ← holding [v] (eval o env)
      let iv ← holding [v, ov] (eval i env)
      standAt tp
      holding [v, ov, iv] (setItem ov iv v)
      release [v, ov, iv] []) := fun v => by
  cases i <;> first | rfl | cases h
theorem isTupE_eq {e : Expr} (h : isTupE e = true) : ∃ es k pos, e = .Tuple es k pos := by
  cases e <;> first | exact ⟨_, _, _, rfl⟩ | cases h
theorem m1_of {X : Cx} {o k : Expr} {m : Str} {apos cpos : Pos} (ho : isBaseE o = true) (hk : isStar k = false) (hl : (apos.endLine == cpos.line) = true) : M1 X o m apos k cpos where
  base := base_e ho
  few := by rw [star_eq hk]; rfl
  line := hl
  trees := by rw [star_eq hk]; rfl
theorem m2_of {X : Cx} {o k d : Expr} {m : Str} {apos cpos : Pos} (ho : isBaseE o = true) (hk : isStar k = false) (hd : isStar d = false) (hl : (apos.endLine == cpos.line) = true) : M2 X o m apos k d cpos where
  base := base_e ho
  few := by rw [star_eq hk, star_eq hd]; rfl
  line := hl
  trees := by rw [star_eq hk, star_eq hd]; rfl
theorem nm_dbg {n : Str} (h : plainName n = true) : (n == ("__debug__" : Str)) = false ∧ (n == ("__classdict__" : Str)) = false := by
  unfold plainName at h
  simpa using h
theorem not_t {b : Bool} (h : (!b) = true) : b = false := by simpa using h
theorem blt_of {f : BF} {r : Str × Bool} (g : Sur X) (h : bltName f = some r) : ((∃ id, CallR X (.builtin id) (rBl X.K f) ∧ bootBuiltins r.1 = some (.builtin id)) ∨ (∃ T, CallR X (.type T) (rBl X.K f) ∧ bootBuiltins r.1 = some (.type T))) ∧ r.1 ≠ "__name__" ∧ (r.1 == ("__debug__" : Str)) = false := by
  cases f <;> simp only [bltName] at h <;> first | (cases h; done) | skip
  all_goals cases h
  · exact ⟨.inl ⟨"all", blt_all g, by decide +kernel⟩, by decide +kernel, by decide +kernel⟩
  · exact ⟨.inl ⟨"any", blt_any g, by decide +kernel⟩, by decide +kernel, by decide +kernel⟩
  · exact ⟨.inl ⟨"max", blt_max2 g, by decide +kernel⟩, by decide +kernel, by decide +kernel⟩
  · exact ⟨.inl ⟨"min", blt_min2 g, by decide +kernel⟩, by decide +kernel, by decide +kernel⟩
  · exact ⟨.inl ⟨"max", blt_maxl g, by decide +kernel⟩, by decide +kernel, by decide +kernel⟩
  · exact ⟨.inl ⟨"min", blt_minl g, by decide +kernel⟩, by decide +kernel, by decide +kernel⟩
  · exact ⟨.inl ⟨"sorted", blt_sortedR g, by decide +kernel⟩, by decide +kernel, by decide +kernel⟩
  · exact ⟨.inl ⟨"repr", blt_repr g, by decide +kernel⟩, by decide +kernel, by decide +kernel⟩
  · exact ⟨.inr ⟨"str", blt_str g, by decide +kernel⟩, by decide +kernel, by decide +kernel⟩
  · exact ⟨.inr ⟨"int", blt_int g, by decide +kernel⟩, by decide +kernel, by decide +kernel⟩
  · exact ⟨.inr ⟨"list", blt_list g, by decide +kernel⟩, by decide +kernel, by decide +kernel⟩
  · exact ⟨.inr ⟨"tuple", blt_tuple g, by decide +kernel⟩, by decide +kernel, by decide +kernel⟩
  · exact ⟨.inl ⟨"sorted", blt_sorted g, by decide +kernel⟩, by decide +kernel, by decide +kernel⟩
  · exact ⟨.inr ⟨"dict", blt_dict g, by decide +kernel⟩, by decide +kernel, by decide +kernel⟩
theorem tys_of (g : Ag Γ C p X) : ∀ {ts : List TY} {es : List Expr}, tysOk Γ p ts es = true → Tys X ts es
  | [], [], _ => tys_nil
  | t :: ts, .Name n q :: es, h => by
    simp only [tysOk, Bool.and_eq_true, decide_eq_true_eq] at h
    exact tys_cons h.1.1.1 (g.gl h.1.1.2) (g.bls n h.1.2) (tys_of g h.2) (star_eq rfl)
  | [], _ :: _, h => by simp [tysOk] at h
  | _ :: _, [], h => by simp [tysOk] at h
  | t :: ts, e :: es, h => by
    cases e <;> first | (simp [tysOk] at h; done) | skip
    simp only [tysOk, Bool.and_eq_true, decide_eq_true_eq] at h
    exact tys_cons h.1.1.1 (g.gl h.1.1.2) (g.bls _ h.1.2) (tys_of g h.2) (star_eq rfl)
theorem okGs_len {ts : Tgs} : ∀ {es : List Expr} {env : PySem.Env}, okGs p ts es = true → (assignEach es env).length = tgLen ts ∧ (assignEach es env).findIdx? (·.1) = none := by
  intro es
  induction es generalizing ts with
  | nil =>
    intro env h
    cases ts with
    | nil => exact ⟨rfl, rfl⟩
    | cons _ _ => simp [okGs] at h
  | cons e es ih =>
    intro env h
    cases ts with
    | nil => simp [okGs] at h
    | cons t ts =>
      simp only [okGs, Bool.and_eq_true] at h
      obtain ⟨h1, h2⟩ := ih (env := env) h.2
      rw [asg_eq (not_t h.1.1)]
      refine ⟨by simp [tgLen, h1], ?_⟩
      rw [List.findIdx?_cons, h2]; rfl
mutual
theorem okG_snd (g : Ag Γ C p X) : ∀ (t : Tg) (e : Expr), okG p t e = true → sndG X e t
  | .nm i, e, h => by
    unfold okG at h
    split at h
    · rw [Bool.and_eq_true] at h
      obtain ⟨h1, h2⟩ := g.loc h.2
      exact g_nm g.sur.nd (g.at' h.1) h1 h2
    · cases h
  | .tp ts, e, h => by
    unfold okG at h
    split at h
    · obtain ⟨h1, h2⟩ := okGs_len (env := X.env) h
      exact g_tp g.sur.calm (okGs_snd g ts _ h) h1 h2
    · cases h
theorem okGs_snd (g : Ag Γ C p X) : ∀ (ts : Tgs) (es : List Expr), okGs p ts es = true → sndGs X es ts
  | .nil, es, h => by
    unfold okGs at h
    split at h
    · exact gs_nil
    · cases h
  | .cons t ts, es, h => by
    unfold okGs at h
    split at h
    · simp only [Bool.and_eq_true] at h
      exact gs_cons (okG_snd g t _ h.1.2) (okGs_snd g ts _ h.2) (by rw [asg_eq (not_t h.1.1)]; rfl)
    · cases h
end
end
end Lf

set_option Elab.async false
set_option linter.all false
set_option maxRecDepth 100000
set_option maxHeartbeats 4000000
/-! The look is sound: expressions. -/
namespace Lf
open PySem PySem.Spec PyProof.Rows L2
section
variable {Γ : Tab} {C : CallT}
theorem mth_of {f : MF} {m : Str} {X : Cx} {er : ER} (h : mthName f = some m) : ∃ id, MtR X id (rM X.K er f) ∧ Slot "list" m id ∧ typeOf (.builtin id) = pure (.type "method_descriptor") := by
  cases f <;> simp only [mthName] at h <;> first | (cases h; done) | skip
  all_goals cases h
  · exact ⟨_, m_append, PySem.F.slot_list_append, PySem.F.type_list_append⟩
  · exact ⟨_, m_pop, PySem.F.slot_list_pop, PySem.F.type_list_pop⟩
  · exact ⟨_, m_popat, PySem.F.slot_list_pop, PySem.F.type_list_pop⟩
  · exact ⟨_, m_insert, PySem.F.slot_list_insert, PySem.F.type_list_insert⟩
  · exact ⟨_, m_extend, PySem.F.slot_list_extend, PySem.F.type_list_extend⟩
  · exact ⟨_, m_clear, PySem.F.slot_list_clear, PySem.F.type_list_clear⟩
  · exact ⟨_, m_reverse, PySem.F.slot_list_reverse, PySem.F.type_list_reverse⟩
theorem smt_of {f : MF} {m : Str} {X : Cx} (h : smtName f = some m) : ∃ id, MtR X id (rSt X.K f) ∧ Slot "str" m id ∧ typeOf (.builtin id) = pure (.type "method_descriptor") := by
  cases f <;> simp only [smtName] at h <;> first | (cases h; done) | skip
  all_goals cases h
  · exact ⟨_, st_upper, PySem.F.slot_str_upper, PySem.F.type_str_upper⟩
  · exact ⟨_, st_split, PySem.F.slot_str_split, PySem.F.type_str_split⟩
  · exact ⟨_, st_join, PySem.F.slot_str_join, PySem.F.type_str_join⟩
theorem isAbs_eq {y : Ex} (h : isAbs y = true) : y = .cst .none := by
  unfold isAbs at h
  split at h
  · rfl
  · cases h
def isBoolE : Expr → Bool
  | .BoolOp .. => true
  | _ => false
theorem few {es : List Expr} {a : Expr} {pos : Pos} {env : PySem.Env} (h : (a :: es).all (fun e => !isStar e) = true) (hl : (a :: es).length < 30) : ((backTo pos (starEach (a :: es) env)).all (fun x => !x.1) && (backToKw pos (keywordEach [] env)).all (fun x => x.1.isSome)
      && decide ((a :: es).length + ([] : List Keyword).length + (if ([] : List Keyword).isEmpty then 0 else 1) < 30)) = true := by
  rw [star_all h]
  show (true && true && decide _) = true
  simp only [Bool.true_and, decide_eq_true_eq]
  exact hl
mutual
theorem okE_snd : ∀ (x : Ex) {p : Pl} {X : Cx} {er : ER} (g : Ag Γ C p X) (e : Expr), okE Γ p x e = true → snd X er C e x
  | .var i, p, X, er, g, e, h => by
    unfold okE at h
    split at h
    · simp only [Bool.and_eq_true] at h
      obtain ⟨d1, d2⟩ := nm_dbg h.2
      exact snd_var (g.at' h.1.1) (by rw [g.sc]; exact visB_vis h.1.2) d1 d2
    · cases h
  | .cst c, p, X, er, g, e, h => by
    unfold okE at h
    split at h
    · exact snd_cst (constIs_eq h)
    · cases h
  | .glb x c, p, X, er, g, e, h => by
    unfold okE at h
    split at h
    · simp only [Bool.and_eq_true, decide_eq_true_eq] at h
      obtain ⟨⟨⟨h1, h2⟩, h3⟩, h4⟩ := h
      subst h1
      split at h4
      · rename_i d e
        have := atomEq_eq h4
        subst this
        obtain ⟨u, v, q1, q2, q3⟩ := g.cst _ _ e
        exact snd_glb (g.gl h2) q1 q2 q3 (nm_dbg h3).1
      · cases h4
    · cases h
  | .tup xs, p, X, er, g, e, h => by
    unfold okE at h
    split at h
    · exact snd_tup (okEs_snd xs g _ h)
    · cases h
  | .dis xs, p, X, er, g, e, h => by
    unfold okE at h
    split at h
    · exact snd_dis (okEs_snd xs g _ h)
    · cases h
  | .dcs kvs, p, X, er, g, e, h => by
    unfold okE at h
    split at h
    · split at h
      · have : kvs = [] := by simpa using h
        subst this
        exact snd_dcs0
      · split at h
        · rename_i r e
          simp only [Bool.and_eq_true, decide_eq_true_eq] at h
          have := kvsEq_eq h.1
          subst this
          exact snd_dcs (ds := r.1) (kvs := r.2) e (by simp) h.2
        · cases h
      · cases h
    · cases h
  | .dgt x y, p, X, er, g, e, h => by
    unfold okE at h
    split at h
    · simp only [Bool.and_eq_true, decide_eq_true_eq] at h
      obtain ⟨⟨⟨⟨⟨h1, h2⟩, h3⟩, h4⟩, h5⟩, h6⟩ := h
      subst h1
      exact snd_dgt1 g.sur (okE_snd x g _ h3) (okE_snd y g _ h4) (m1_of h2 (not_t h5) h6)
    · cases h
  | .dgt2 x y z, p, X, er, g, e, h => by
    unfold okE at h
    split at h
    · simp only [Bool.and_eq_true, decide_eq_true_eq] at h
      obtain ⟨⟨⟨⟨⟨⟨⟨h1, h2⟩, h3⟩, h4⟩, h5⟩, h6⟩, h7⟩, h8⟩ := h
      subst h1
      exact snd_dgt2 g.sur (okE_snd x g _ h3) (okE_snd y g _ h4) (okE_snd z g _ h5) (m2_of h2 (not_t h6) (not_t h7) h8)
    · cases h
  | .dpop x y z, p, X, er, g, e, h => by
    unfold okE at h
    split at h
    · simp only [Bool.and_eq_true, decide_eq_true_eq] at h
      obtain ⟨⟨⟨⟨⟨⟨⟨h1, h2⟩, h3⟩, h4⟩, h5⟩, h6⟩, h7⟩, h8⟩ := h
      subst h1
      exact snd_dpop g.sur (okE_snd x g _ h3) (okE_snd y g _ h4) (okE_snd z g _ h5) (m2_of h2 (not_t h6) (not_t h7) h8)
    · cases h
  | .sset x, p, X, er, g, e, h => by
    unfold okE at h
    split at h
    · simp only [Bool.and_eq_true, decide_eq_true_eq] at h
      obtain ⟨⟨⟨⟨⟨h1, h2⟩, h3⟩, h4⟩, h5⟩, h6⟩ := h
      subst h1 h2
      obtain ⟨q1, q2⟩ := g.okGl h3
      obtain ⟨q3, q4⟩ := g.okGl h4
      exact snd_sset g.sur q1 q2 q3 q4 (okE_snd x g _ h6) (star_eq (not_t h5))
    · cases h
  | .dcomp own t it c k x, p, X, er, g, e, h => by
    unfold okE at h
    split at h
    · rename_i kx vx tg iter ifs asy scope pos
      simp only [Bool.and_eq_true, decide_eq_true_eq] at h
      obtain ⟨⟨⟨⟨⟨⟨⟨⟨⟨h1, h2⟩, h3⟩, h4⟩, h4'⟩, h5⟩, h6⟩, h7⟩, h8⟩, h9⟩ := h
      subst h1
      rw [← h2]
      refine snd_dcomp g.sur (okI_snd it g tg iter h4 h4') (blkOk_by (by rw [g.nm, g.sc]; exact h3)) (fun s H A cl fp => okG_snd g.blk t tg h6) (fun s H A cl fp => ?_) (fun s H A cl fp => okE_snd k g.blk kx h8) (fun s H A cl fp => okE_snd x g.blk vx h9) (set_plain (not_t h5))
      split at h7
      · split at h7
        · refine ⟨fun pins s σ H Q I q => pts_nil.run pins s σ H Q I ?_⟩
          obtain ⟨E, S, ι, hE, hS, q⟩ := q
          unfold evT at q
          obtain ⟨b, e1, q⟩ := Post.lift q hS
          cases e1
          exact q
        · cases h7
      · exact pts_one (okT_snd c g.blk _ h7).1
      · cases h7
    · cases h
  | .mut x, p, X, er, g, e, h => snd_mut (okE_snd x g e (by unfold okE at h; exact h))
  | .fz x, p, X, er, g, e, h => snd_fz (okE_snd x g e (by unfold okE at h; exact h))
  | .bin o x y, p, X, er, g, e, h => by
    unfold okE at h
    split at h
    · simp only [Bool.and_eq_true, decide_eq_true_eq] at h
      obtain ⟨⟨h1, h2⟩, h3⟩ := h
      subst h1
      exact snd_bin (okE_snd x g _ h2) (okE_snd y g _ h3)
    · cases h
  | .neg x, p, X, er, g, e, h => by
    unfold okE at h
    split at h
    · exact snd_neg (okE_snd x g _ h)
    · cases h
  | .not x, p, X, er, g, e, h => by
    unfold okE at h
    split at h
    · exact snd_not (okE_snd x g _ h)
    · cases h
  | .and x y, p, X, er, g, e, h => by
    unfold okE at h
    split at h
    · rw [Bool.and_eq_true] at h
      obtain ⟨h1, h2⟩ := h
      split at h2
      · exact snd_and (okE_snd x g _ h1) (snd_one (okE_snd y g _ h2))
      · exact snd_and (okE_snd x g _ h1) (okE_snd y g _ h2)
    · cases h
  | .or x y, p, X, er, g, e, h => by
    unfold okE at h
    split at h
    · rw [Bool.and_eq_true] at h
      obtain ⟨h1, h2⟩ := h
      split at h2
      · exact snd_or (okE_snd x g _ h1) (snd_one (okE_snd y g _ h2))
      · exact snd_or (okE_snd x g _ h1) (okE_snd y g _ h2)
    · cases h
  | .cmp o x y, p, X, er, g, e, h => by
    unfold okE at h
    split at h
    · simp only [Bool.and_eq_true, decide_eq_true_eq] at h
      obtain ⟨⟨⟨h1, h2⟩, h3⟩, h4⟩ := h
      subst h1
      exact snd_cmp g.sur (okE_snd x g _ h2) (okE_snd y g _ h3) (marks_plain (not_t h4))
    · cases h
  | .chn o o' x y z, p, X, er, g, e, h => by
    unfold okE at h
    split at h
    · simp only [Bool.and_eq_true, decide_eq_true_eq] at h
      obtain ⟨⟨⟨⟨⟨h1, h1'⟩, h2⟩, h3⟩, h4⟩, h5⟩ := h
      subst h1 h1'
      exact snd_chn g.sur (okE_snd x g _ h2) (okE_snd y g _ h3) (okE_snd z g _ h4) (marks_plain (not_t h5))
    · cases h
  | .ite t x y, p, X, er, g, e, h => by
    unfold okE at h
    split at h
    · simp only [Bool.and_eq_true] at h
      obtain ⟨⟨h1, h2⟩, h3⟩ := h
      exact snd_ite (okT_snd t g _ h1).1 (okE_snd x g _ h2) (okE_snd y g _ h3)
    · cases h
  | .idx x y, p, X, er, g, e, h => by
    unfold okE at h
    split at h
    · simp only [Bool.and_eq_true] at h
      obtain ⟨⟨h1, h2⟩, h3⟩ := h
      exact snd_idx g.sur (okE_snd x g _ h1) (okE_snd y g _ h2) (plainIx (not_t h3))
    · cases h
  | .len x, p, X, er, g, e, h => by
    unfold okE at h
    split at h
    · simp only [Bool.and_eq_true, decide_eq_true_eq] at h
      obtain ⟨⟨⟨h1, h2⟩, h3⟩, h4⟩ := h
      subst h1
      obtain ⟨q1, q2⟩ := g.okGl h2
      exact snd_len q1 q2 (okE_snd x g _ h4) (star_eq (not_t h3))
    · cases h
  | .sl x y z, p, X, er, g, e, h => by
    unfold okE at h
    split at h
    · rename_i a lo hi _ _
      simp only [Bool.and_eq_true] at h
      obtain ⟨⟨h1, h2⟩, h3⟩ := h
      refine snd_sl (okE_snd x g _ h1) ?_ ?_
      · cases lo with
        | none =>
          have h2 : isAbs y = true := h2
          rw [isAbs_eq h2]
          exact o_none
        | some l =>
          have h2 : (!isAbs y && okE Γ p y l) = true := h2
          rw [Bool.and_eq_true] at h2
          exact o_some (okE_snd y g _ h2.2) (not_t h2.1)
      · cases hi with
        | none =>
          have h3 : isAbs z = true := h3
          rw [isAbs_eq h3]
          exact o_none
        | some l =>
          have h3 : (!isAbs z && okE Γ p z l) = true := h3
          rw [Bool.and_eq_true] at h3
          exact o_some (okE_snd z g _ h3.2) (not_t h3.1)
    · cases h
  | .lens x, p, X, er, g, e, h => by
    unfold okE at h
    split at h
    · simp only [Bool.and_eq_true, decide_eq_true_eq] at h
      obtain ⟨⟨⟨⟨⟨h1, h2⟩, h3⟩, h4⟩, h5⟩, h6⟩ := h
      subst h1 h2
      obtain ⟨q1, q2⟩ := g.okGl h3
      obtain ⟨q3, q4⟩ := g.okGl h4
      exact snd_lens g.sur q1 q2 q3 q4 (okE_snd x g _ h6) (star_eq (not_t h5))
    · cases h
  | .rev x, p, X, er, g, e, h => by
    unfold okE at h
    split at h
    · exact snd_rev (okE_snd x g _ h)
    · cases h
  | .comp own t it c x, p, X, er, g, e, h => by
    unfold okE at h
    split at h
    · rename_i elt tg iter ifs asy scope pos
      simp only [Bool.and_eq_true, decide_eq_true_eq] at h
      obtain ⟨⟨⟨⟨⟨⟨⟨⟨h1, h2⟩, h3⟩, h4⟩, h4'⟩, h5⟩, h6⟩, h7⟩, h8⟩ := h
      subst h1
      rw [← h2]
      have ht : ∀ (s : Shared) (H : Hp) (A : Addr) (cl : List (Str × Addr)) (fp : List Addr), PTs (X.blk s H scope (compEnvC scope cl A X.env) fp) ifs (tB X.K (fun _ _ => False) (evT C c)) := fun s H A cl fp => by
        split at h7
        · split at h7
          · refine ⟨fun pins s σ H Q I q => pts_nil.run pins s σ H Q I ?_⟩
            obtain ⟨E, S, ι, hE, hS, q⟩ := q
            unfold evT at q
            obtain ⟨b, e1, q⟩ := Post.lift q hS
            cases e1
            exact q
          · cases h7
        · exact pts_one (okT_snd c g.blk _ h7).1
        · cases h7
      by_cases dd : isD it = true
      · rw [if_pos dd] at h4
        cases it with
        | keys i =>
          unfold okD at h4
          dsimp only at h4
          split at h4
          · simp only [Bool.and_eq_true] at h4
            obtain ⟨d1, d2⟩ := nm_dbg h4.2
            exact snd_compK g.sur (g.at' h4.1.1) (by rw [g.sc]; exact visB_vis h4.1.2) d1 d2 (blkOk_by (by rw [g.nm, g.sc]; exact h3)) (fun s H A cl fp => okG_snd g.blk t tg h6) ht (fun s H A cl fp => okE_snd x g.blk elt h8) (set_plain (not_t h5))
          · cases h4
        | items i =>
          unfold okD at h4
          dsimp only at h4
          split at h4
          · simp only [Bool.and_eq_true, decide_eq_true_eq] at h4
            obtain ⟨⟨⟨⟨⟨k1, k2⟩, k3⟩, k4⟩, k5⟩, k6⟩ := h4
            subst k1
            obtain ⟨d1, d2⟩ := nm_dbg k4
            obtain ⟨es, kk, tp, rfl⟩ := isTupE_eq k6
            exact snd_compI g.sur (g.at' k2) (by rw [g.sc]; exact visB_vis k3) d1 d2 (blkOk_by (by rw [g.nm, g.sc]; exact h3)) (base_name rfl) k5 (fun s H A cl fp => okG_snd g.blk t _ h6) ht (fun s H A cl fp => okE_snd x g.blk elt h8) (set_plain (not_t h5))
          · cases h4
        | x _ => cases dd
        | rng _ => cases dd
        | rng2 _ _ => cases dd
        | enum _ => cases dd
        | zip _ _ => cases dd
      · rw [if_neg dd] at h4
        exact snd_comp g.sur (okI_snd it g tg iter h4 h4') (blkOk_by (by rw [g.nm, g.sc]; exact h3)) (fun s H A cl fp => okG_snd g.blk t tg h6) ht (fun s H A cl fp => okE_snd x g.blk elt h8) (set_plain (not_t h5))
    · cases h
  | .call k xs, p, X, er, g, e, h => by
    unfold okE at h
    split at h
    · simp only [Bool.and_eq_true] at h
      obtain ⟨⟨⟨h1, h2⟩, h3⟩, h4⟩ := h
      obtain ⟨f, q1, q2, q3⟩ := g.call h1
      have hs := okEs_star h4
      rw [List.all_cons, Bool.and_eq_true] at hs
      exact snd_call (q1 er) (g.gl h2) q2 q3 (okEs_snd xs g _ h4) (nm_dbg h3).1 (star_eq (not_t hs.1)) (star_any hs.2)
    · cases h
  | .calld k xs ds, p, X, er, g, e, h => by
    unfold okE at h
    split at h
    · simp only [Bool.and_eq_true] at h
      obtain ⟨⟨⟨⟨h1, h2⟩, h3⟩, h4⟩, h5⟩ := h
      split at h5
      · rename_i dd hdd
        obtain ⟨f, dvs, q0, q1, q2, q3⟩ := g.calld h1 hdd
        have hs := okEs_star h4
        rw [List.all_cons, Bool.and_eq_true] at hs
        exact snd_calld (q1 er) (by rw [← atomsEq_eq h5]; exact q0) (g.gl h2) q2 q3 (okEs_snd xs g _ h4) (nm_dbg h3).1 (star_eq (not_t hs.1)) (star_any hs.2)
      · cases h5
    · cases h
  | .inG x nm ys, p, X, er, g, e, h => by
    unfold okE at h
    split at h
    · simp only [Bool.and_eq_true, decide_eq_true_eq] at h
      obtain ⟨⟨⟨⟨h1, h2⟩, h3⟩, h4⟩, h5⟩ := h
      subst h1
      split at h5
      · rename_i zs hz
        obtain ⟨T, q1, q2⟩ := g.tups _ _ hz
        rw [of_decide_eq_true h5] at q2
        exact snd_inG (g.gl h2) q1 (nm_dbg h3).1 q2 (okE_snd x g _ h4)
      · cases h5
    · cases h
  | .blt f xs, p, X, er, g, e, h => by
    unfold okE at h
    split at h
    · split at h
      · rename_i r er'
        simp only [Bool.and_eq_true, decide_eq_true_eq] at h
        obtain ⟨⟨h1, h2⟩, h3⟩ := h
        subst h1
        obtain ⟨q1, q2⟩ := g.okGl h2
        have hs := okEs_star h3
        rw [List.all_cons, Bool.and_eq_true] at hs
        obtain ⟨⟨id, c1, c2⟩ | ⟨id, c1, c2⟩, c3, c4⟩ := blt_of g.sur er'
        · exact snd_bltB c1 q1 q2 c2 (okEs_snd xs g _ h3) c3 c4 (star_eq (not_t hs.1)) (star_any hs.2)
        · exact snd_bltT c1 q1 q2 c2 (okEs_snd xs g _ h3) c3 c4 (star_eq (not_t hs.1)) (star_any hs.2)
      · cases h
    · cases h
  | .mth f x xs, p, X, er, g, e, h => by
    unfold okE at h
    split at h
    · rename_i o n apos args pos
      split at h
      · rename_i m em
        simp only [Bool.and_eq_true, decide_eq_true_eq] at h
        obtain ⟨⟨⟨⟨⟨h1, h2⟩, h3⟩, h4⟩, h5⟩, h6⟩ := h
        subst h1
        obtain ⟨id, c1, c2, c3⟩ := mth_of (X := X) (er := er) em
        cases args with
        | nil =>
          cases xs with
          | nil => exact snd_mth0 c1 c2 c3 (okE_snd x g _ h3) (base_name h2) h5
          | cons _ _ => simp [okEs] at h4
        | cons a es =>
          have hs := okEs_star h4
          have hs' := hs
          rw [List.all_cons, Bool.and_eq_true] at hs'
          exact snd_mth c1 c2 c3 (okE_snd x g _ h3) (okEs_snd xs g _ h4) (base_name h2) (few hs h6) h5 (star_eq (not_t hs'.1)) (star_any hs'.2)
      · cases h
    · cases h
  | .smt f x xs, p, X, er, g, e, h => by
    unfold okE at h
    split at h
    · rename_i o n apos args pos
      split at h
      · rename_i m em
        simp only [Bool.and_eq_true, decide_eq_true_eq] at h
        obtain ⟨⟨⟨⟨⟨h1, h2⟩, h3⟩, h4⟩, h5⟩, h6⟩ := h
        subst h1
        obtain ⟨id, c1, c2, c3⟩ := smt_of (X := X) em
        cases args with
        | nil =>
          cases xs with
          | nil => exact snd_smt0 c1 c2 c3 (okE_snd x g _ h3) (base_e h2) h5
          | cons _ _ => simp [okEs] at h4
        | cons a es =>
          have hs := okEs_star h4
          have hs' := hs
          rw [List.all_cons, Bool.and_eq_true] at hs'
          exact snd_smt c1 c2 c3 (okE_snd x g _ h3) (okEs_snd xs g _ h4) (base_e h2) (few hs h6) h5 (star_eq (not_t hs'.1)) (star_any hs'.2)
      · cases h
    · cases h
  | .isa x ts, p, X, er, g, e, h => by
    unfold okE at h
    split at h
    · simp only [Bool.and_eq_true, decide_eq_true_eq] at h
      obtain ⟨⟨⟨⟨h1, h2⟩, h3⟩, h4⟩, h5⟩ := h
      subst h1
      obtain ⟨q1, q2⟩ := g.okGl h2
      split at h5
      · rename_i m q
        cases ts with
        | nil => simp [tysOk] at h5
        | cons t ts =>
          simp only [tysOk, Bool.and_eq_true, decide_eq_true_eq] at h5
          obtain ⟨⟨⟨h5, h6⟩, h7⟩, h8⟩ := h5
          cases ts with
          | nil => exact snd_isa1 q1 q2 (okE_snd x g _ h4) h5 (g.gl h6) (g.bls _ h7) (star_eq (not_t h3))
          | cons _ _ => simp [tysOk] at h8
      · rw [Bool.and_eq_true, decide_eq_true_eq] at h5
        exact snd_isaT q1 q2 (okE_snd x g _ h4) (tys_of g h5.1) h5.2 (star_eq (not_t h3))
      · cases h5
    · cases h
theorem okT_snd : ∀ (x : Ex) {p : Pl} {X : Cx} {er : ER} (g : Ag Γ C p X) (e : Expr), okT Γ p x e = true → sndT X er C e x ∧ (isBoolE e = true → sndW X er C e x)
  | .not x, p, X, er, g, e, h => by
    unfold okT at h
    split at h
    · exact ⟨t_not (okT_snd x g _ h).1, nofun⟩
    · cases h
  | .and x y, p, X, er, g, e, h => by
    unfold okT at h
    split at h
    · rename_i a b rest pos
      rw [Bool.and_eq_true] at h
      obtain ⟨h1, h2⟩ := h
      have w : sndW X er C (.BoolOp .And (a :: b :: rest) pos) (.and x y) := by
        split at h2
        · exact w_and (okT_snd x g _ h1).1 (w_and1 (okT_snd y g _ h2).1)
        · exact w_and (okT_snd x g _ h1).1 ((okT_snd y g _ h2).2 rfl)
      exact ⟨w.pt, fun _ => w⟩
    · cases h
  | .or x y, p, X, er, g, e, h => by
    unfold okT at h
    split at h
    · rename_i a b rest pos
      rw [Bool.and_eq_true] at h
      obtain ⟨h1, h2⟩ := h
      have w : sndW X er C (.BoolOp .Or (a :: b :: rest) pos) (.or x y) := by
        split at h2
        · exact w_or (okT_snd x g _ h1).1 (w_or1 (okT_snd y g _ h2).1)
        · exact w_or (okT_snd x g _ h1).1 ((okT_snd y g _ h2).2 rfl)
      exact ⟨w.pt, fun _ => w⟩
    · cases h
  | .cmp o x y, p, X, er, g, e, h => by
    unfold okT at h
    split at h
    · simp only [Bool.and_eq_true, decide_eq_true_eq] at h
      obtain ⟨⟨⟨h1, h2⟩, h3⟩, h4⟩ := h
      subst h1
      exact ⟨t_cmp g.sur (okE_snd x g _ h2) (okE_snd y g _ h3) (marks_plain (not_t h4)), nofun⟩
    · cases h
  | .chn o o' x y z, p, X, er, g, e, h => by
    unfold okT at h
    split at h
    · simp only [Bool.and_eq_true, decide_eq_true_eq] at h
      obtain ⟨⟨⟨⟨⟨h1, h1'⟩, h2⟩, h3⟩, h4⟩, h5⟩ := h
      subst h1 h1'
      exact ⟨t_chn g.sur (okE_snd x g _ h2) (okE_snd y g _ h3) (okE_snd z g _ h4) (marks_plain (not_t h5)), nofun⟩
    · cases h
  | .var i, p, X, er, g, e, h => by
    have h' : okE Γ p (.var i) e = true := by unfold okT at h; unfold okE; exact h
    have v := okE_snd (er := er) (.var i) g e h'
    unfold okT at h
    split at h
    · exact ⟨t_val (tv_var i) v (fun _ => rfl), nofun⟩
    · cases h
  | .call k xs, p, X, er, g, e, h => by
    have h' : okE Γ p (.call k xs) e = true := by unfold okT at h; unfold okE; exact h
    unfold okT at h
    split at h
    · simp only [Bool.and_eq_true] at h
      obtain ⟨⟨⟨h1, h2⟩, h3⟩, h4⟩ := h
      obtain ⟨f, q1, q2, q3⟩ := g.call h1
      have hs := okEs_star h4
      rw [List.all_cons, Bool.and_eq_true] at hs
      exact ⟨t_val (tv_call k) (snd_call (q1 er) (g.gl h2) q2 q3 (okEs_snd xs g _ h4) (nm_dbg h3).1 (star_eq (not_t hs.1)) (star_any hs.2)) (fun _ => rfl), nofun⟩
    · cases h
  | .blt f xs, p, X, er, g, e, h => by
    unfold okT at h
    split at h
    · split at h
      · rename_i r er'
        simp only [Bool.and_eq_true, decide_eq_true_eq] at h
        obtain ⟨⟨h1, h2⟩, h3⟩ := h
        subst h1
        obtain ⟨q1, q2⟩ := g.okGl h2
        have hs := okEs_star h3
        rw [List.all_cons, Bool.and_eq_true] at hs
        obtain ⟨⟨id, c1, c2⟩ | ⟨id, c1, c2⟩, c3, c4⟩ := blt_of g.sur er'
        · exact ⟨t_val (tv_blt f) (snd_bltB c1 q1 q2 c2 (okEs_snd xs g _ h3) c3 c4 (star_eq (not_t hs.1)) (star_any hs.2)) (fun _ => rfl), nofun⟩
        · exact ⟨t_val (tv_blt f) (snd_bltT c1 q1 q2 c2 (okEs_snd xs g _ h3) c3 c4 (star_eq (not_t hs.1)) (star_any hs.2)) (fun _ => rfl), nofun⟩
      · cases h
    · cases h
  | .isa x ts, p, X, er, g, e, h => by
    unfold okT at h
    split at h
    · simp only [Bool.and_eq_true, decide_eq_true_eq] at h
      obtain ⟨⟨⟨⟨h1, h2⟩, h3⟩, h4⟩, h5⟩ := h
      subst h1
      obtain ⟨q1, q2⟩ := g.okGl h2
      split at h5
      · rename_i m q
        cases ts with
        | nil => simp [tysOk] at h5
        | cons t ts =>
          simp only [tysOk, Bool.and_eq_true, decide_eq_true_eq] at h5
          obtain ⟨⟨⟨h5, h6⟩, h7⟩, h8⟩ := h5
          cases ts with
          | nil => exact ⟨t_val (tv_isa [t]) (snd_isa1 q1 q2 (okE_snd x g _ h4) h5 (g.gl h6) (g.bls _ h7) (star_eq (not_t h3))) (fun _ => rfl), nofun⟩
          | cons _ _ => simp [tysOk] at h8
      · rw [Bool.and_eq_true, decide_eq_true_eq] at h5
        exact ⟨t_val (tv_isa ts) (snd_isaT q1 q2 (okE_snd x g _ h4) (tys_of g h5.1) h5.2 (star_eq (not_t h3))) (fun _ => rfl), nofun⟩
      · cases h5
    · cases h
  | .inG x nm ys, p, X, er, g, e, h => by
    unfold okT at h
    split at h
    · simp only [Bool.and_eq_true, decide_eq_true_eq] at h
      obtain ⟨⟨⟨⟨h1, h2⟩, h3⟩, h4⟩, h5⟩ := h
      subst h1
      split at h5
      · rename_i zs hz
        obtain ⟨T, q1, q2⟩ := g.tups _ _ hz
        rw [of_decide_eq_true h5] at q2
        exact ⟨t_inG (g.gl h2) q1 (nm_dbg h3).1 q2 (okE_snd x g _ h4), nofun⟩
      · cases h5
    · cases h
  | .calld _ _ _, p, X, er, g, e, h => by unfold okT at h; cases h
  | .cst _, p, X, er, g, e, h => by unfold okT at h; cases h
  | .glb _ _, p, X, er, g, e, h => by unfold okT at h; cases h
  | .tup _, p, X, er, g, e, h => by unfold okT at h; cases h
  | .dis _, p, X, er, g, e, h => by unfold okT at h; cases h
  | .dcs _, p, X, er, g, e, h => by unfold okT at h; cases h
  | .dgt _ _, p, X, er, g, e, h => by unfold okT at h; cases h
  | .dgt2 _ _ _, p, X, er, g, e, h => by unfold okT at h; cases h
  | .dpop _ _ _, p, X, er, g, e, h => by unfold okT at h; cases h
  | .sset _, p, X, er, g, e, h => by unfold okT at h; cases h
  | .dcomp _ _ _ _ _ _, p, X, er, g, e, h => by unfold okT at h; cases h
  | .mut _, p, X, er, g, e, h => by unfold okT at h; cases h
  | .fz _, p, X, er, g, e, h => by unfold okT at h; cases h
  | .bin _ _ _, p, X, er, g, e, h => by unfold okT at h; cases h
  | .neg _, p, X, er, g, e, h => by unfold okT at h; cases h
  | .ite _ _ _, p, X, er, g, e, h => by unfold okT at h; cases h
  | .idx _ _, p, X, er, g, e, h => by unfold okT at h; cases h
  | .len _, p, X, er, g, e, h => by unfold okT at h; cases h
  | .sl _ _ _, p, X, er, g, e, h => by unfold okT at h; cases h
  | .rev _, p, X, er, g, e, h => by unfold okT at h; cases h
  | .lens _, p, X, er, g, e, h => by unfold okT at h; cases h
  | .smt _ _ _, p, X, er, g, e, h => by unfold okT at h; cases h
  | .comp _ _ _ _ _, p, X, er, g, e, h => by unfold okT at h; cases h
  | .mth _ _ _, p, X, er, g, e, h => by unfold okT at h; cases h
theorem okEs_snd : ∀ (xs : Exs) {p : Pl} {X : Cx} {er : ER} (g : Ag Γ C p X) (es : List Expr), okEs Γ p xs es = true → sndVs X er C es xs
  | .nil, p, X, er, g, es, h => by
    unfold okEs at h
    split at h
    · exact vs_nil
    · cases h
  | .cons x xs, p, X, er, g, es, h => by
    unfold okEs at h
    split at h
    · simp only [Bool.and_eq_true] at h
      exact vs_cons (okE_snd x g _ h.1.2) (okEs_snd xs g _ h.2) (star_eq (not_t h.1.1))
    · cases h
theorem okI_snd : ∀ (i : Ir) {p : Pl} {X : Cx} {er : ER} (g : Ag Γ C p X) (tg e : Expr), okI Γ p i e = true → tgB i tg = true → sndI X er C tg e i
  | .x x, p, X, er, g, tg, e, h, _ => i_x (okE_snd x g e (by unfold okI at h; exact h))
  | .rng x, p, X, er, g, tg, e, h, _ => by
    unfold okI at h
    split at h
    · simp only [Bool.and_eq_true, decide_eq_true_eq] at h
      obtain ⟨⟨⟨h1, h2⟩, h3⟩, h4⟩ := h
      subst h1
      obtain ⟨q1, q2⟩ := g.okGl h2
      exact i_rng q1 q2 (okE_snd x g _ h4) (star_eq (not_t h3))
    · cases h
  | .rng2 x y, p, X, er, g, tg, e, h, _ => by
    unfold okI at h
    split at h
    · simp only [Bool.and_eq_true, decide_eq_true_eq] at h
      obtain ⟨⟨⟨⟨⟨h1, h2⟩, h3⟩, h3'⟩, h4⟩, h5⟩ := h
      subst h1
      obtain ⟨q1, q2⟩ := g.okGl h2
      exact i_rng2 q1 q2 (okE_snd x g _ h4) (okE_snd y g _ h5) (by rw [star_eq (not_t h3), star_eq (not_t h3')]; rfl) (star_eq (not_t h3'))
    · cases h
  | .keys _, p, X, er, g, tg, e, h, _ => by unfold okI at h; cases h
  | .items _, p, X, er, g, tg, e, h, _ => by unfold okI at h; cases h
  | .enum x, p, X, er, g, tg, e, h, ht => by
    unfold okI at h
    split at h
    · simp only [Bool.and_eq_true, decide_eq_true_eq] at h
      obtain ⟨⟨⟨h1, h2⟩, h3⟩, h4⟩ := h
      subst h1
      obtain ⟨q1, q2⟩ := g.okGl h2
      obtain ⟨es, kk, tp, rfl⟩ := isTupE_eq ht
      exact i_enum q1 q2 (okE_snd x g _ h4) (star_eq (not_t h3))
    · cases h
  | .zip x y, p, X, er, g, tg, e, h, ht => by
    unfold okI at h
    split at h
    · simp only [Bool.and_eq_true, decide_eq_true_eq] at h
      obtain ⟨⟨⟨⟨⟨h1, h2⟩, h3⟩, h3'⟩, h4⟩, h5⟩ := h
      subst h1
      obtain ⟨q1, q2⟩ := g.okGl h2
      obtain ⟨es, kk, tp, rfl⟩ := isTupE_eq ht
      exact i_zip q1 q2 (okE_snd x g _ h4) (okE_snd y g _ h5) (star_eq (not_t h3)) (star_eq (not_t h3')) (by rw [star_eq (not_t h3')]; rfl)
    · cases h
end
end
end Lf

set_option Elab.async false
set_option linter.all false
set_option maxRecDepth 100000
set_option maxHeartbeats 4000000
/-! The look is sound: statements, defs. -/
namespace Lf
open PySem PySem.Spec PyProof.Rows L2
section
variable {Γ : Tab} {C : CallT}
/-- a comprehension that takes its name's place -/
theorem okA_snd : ∀ (x : Ex) {p : Pl} {X : Cx} {er : ER} (g : Ag Γ C p X) {i : Nat} {n : Str} {py pos spos : Pos} {elt : Expr} {gens : List Comprehension} {scope : Scope}, okE Γ p x (.ListComp elt gens scope pos) = true → isDC x = false →
    X.N[i]? = some n → X.env.scope.names.lookup n = some .local → swapsWith (.ListComp elt gens scope pos) (some (.Name n py)) spos.line X.env = pure true →
    PS X (.Assign [.Name n py] (.ListComp elt gens scope pos) spos) (tAsg (tE X.K er (ev C x)) (gName i))
  | .mut x, p, X, er, g, i, n, py, pos, spos, elt, gens, scope, h, hd, h1, h2, h3 => by
    unfold okE at h
    exact PS.weak (okA_snd x g h (by simpa [isDC] using hd) h1 h2 h3) fun D σ H q => mut_rd q
  | .fz x, p, X, er, g, i, n, py, pos, spos, elt, gens, scope, h, hd, h1, h2, h3 => by
    unfold okE at h
    exact PS.weak (okA_snd x g h (by simpa [isDC] using hd) h1 h2 h3) fun D σ H q => fz_rd q
  | .comp own t it c x, p, X, er, g, i, n, py, pos, spos, elt, gens, scope, h, hd, q1, q2, q3 => by
    unfold okE at h
    split at h
    · rename_i elt' tg iter ifs asy scope' pos' e0
      cases e0
      simp only [Bool.and_eq_true, decide_eq_true_eq] at h
      obtain ⟨⟨⟨⟨⟨⟨⟨⟨h1, h2⟩, h3⟩, h4⟩, h4'⟩, h5⟩, h6⟩, h7⟩, h8⟩ := h
      subst h1
      rw [← h2]
      have hd : isD it = false := hd
      rw [if_neg (by rw [hd]; simp)] at h4
      refine set_comp (D := ⟨fun _ _ => False, fun _ _ => False, fun _ _ => False, fun _ _ => False⟩) (σ := []) (H := fun _ => none) g.sur q1 q2 q3 (okI_snd it g tg iter h4 h4') (blkOk_by (by rw [g.nm, g.sc]; exact h3)) (fun s H A cl fp => okG_snd g.blk t tg h6) (fun s H A cl fp => ?_) (fun s H A cl fp => okE_snd x g.blk elt h8) (set_plain (not_t h5))
      split at h7
      · split at h7
        · refine ⟨fun pins s σ H Q I q => pts_nil.run pins s σ H Q I ?_⟩
          obtain ⟨E, S, ι, hE, hS, q⟩ := q
          unfold evT at q
          obtain ⟨b, e1, q⟩ := Post.lift q hS
          cases e1
          exact q
        · cases h7
      · exact pts_one (okT_snd c g.blk _ h7).1
      · cases h7
    · cases h
  | .var _, p, X, er, g, i, n, py, pos, spos, elt, gens, scope, h, _, h1, h2, h3 => by simp [okE] at h
  | .cst _, p, X, er, g, i, n, py, pos, spos, elt, gens, scope, h, _, h1, h2, h3 => by simp [okE] at h
  | .glb _ _, p, X, er, g, i, n, py, pos, spos, elt, gens, scope, h, _, h1, h2, h3 => by simp [okE] at h
  | .tup _, p, X, er, g, i, n, py, pos, spos, elt, gens, scope, h, _, h1, h2, h3 => by simp [okE] at h
  | .dis _, p, X, er, g, i, n, py, pos, spos, elt, gens, scope, h, _, h1, h2, h3 => by simp [okE] at h
  | .dcs _, p, X, er, g, i, n, py, pos, spos, elt, gens, scope, h, _, h1, h2, h3 => by simp [okE] at h
  | .dgt _ _, p, X, er, g, i, n, py, pos, spos, elt, gens, scope, h, _, h1, h2, h3 => by simp [okE] at h
  | .dgt2 _ _ _, p, X, er, g, i, n, py, pos, spos, elt, gens, scope, h, _, h1, h2, h3 => by simp [okE] at h
  | .dpop _ _ _, p, X, er, g, i, n, py, pos, spos, elt, gens, scope, h, _, h1, h2, h3 => by simp [okE] at h
  | .sset _, p, X, er, g, i, n, py, pos, spos, elt, gens, scope, h, _, h1, h2, h3 => by simp [okE] at h
  | .dcomp _ _ _ _ _ _, p, X, er, g, i, n, py, pos, spos, elt, gens, scope, h, _, h1, h2, h3 => by simp [okE] at h
  | .bin _ _ _, p, X, er, g, i, n, py, pos, spos, elt, gens, scope, h, _, h1, h2, h3 => by simp [okE] at h
  | .neg _, p, X, er, g, i, n, py, pos, spos, elt, gens, scope, h, _, h1, h2, h3 => by simp [okE] at h
  | .not _, p, X, er, g, i, n, py, pos, spos, elt, gens, scope, h, _, h1, h2, h3 => by simp [okE] at h
  | .and _ _, p, X, er, g, i, n, py, pos, spos, elt, gens, scope, h, _, h1, h2, h3 => by simp [okE] at h
  | .or _ _, p, X, er, g, i, n, py, pos, spos, elt, gens, scope, h, _, h1, h2, h3 => by simp [okE] at h
  | .cmp _ _ _, p, X, er, g, i, n, py, pos, spos, elt, gens, scope, h, _, h1, h2, h3 => by simp [okE] at h
  | .chn _ _ _ _ _, p, X, er, g, i, n, py, pos, spos, elt, gens, scope, h, _, h1, h2, h3 => by simp [okE] at h
  | .ite _ _ _, p, X, er, g, i, n, py, pos, spos, elt, gens, scope, h, _, h1, h2, h3 => by simp [okE] at h
  | .idx _ _, p, X, er, g, i, n, py, pos, spos, elt, gens, scope, h, _, h1, h2, h3 => by simp [okE] at h
  | .len _, p, X, er, g, i, n, py, pos, spos, elt, gens, scope, h, _, h1, h2, h3 => by simp [okE] at h
  | .sl _ _ _, p, X, er, g, i, n, py, pos, spos, elt, gens, scope, h, _, h1, h2, h3 => by simp [okE] at h
  | .rev _, p, X, er, g, i, n, py, pos, spos, elt, gens, scope, h, _, h1, h2, h3 => by simp [okE] at h
  | .inG _ _ _, p, X, er, g, i, n, py, pos, spos, elt, gens, scope, h, _, h1, h2, h3 => by simp [okE] at h
  | .calld _ _ _, p, X, er, g, i, n, py, pos, spos, elt, gens, scope, h, _, h1, h2, h3 => by simp [okE] at h
  | .lens _, p, X, er, g, i, n, py, pos, spos, elt, gens, scope, h, _, h1, h2, h3 => by simp [okE] at h
  | .smt _ _ _, p, X, er, g, i, n, py, pos, spos, elt, gens, scope, h, _, h1, h2, h3 => by simp [okE] at h
  | .call _ _, p, X, er, g, i, n, py, pos, spos, elt, gens, scope, h, _, h1, h2, h3 => by simp [okE] at h
  | .blt _ _, p, X, er, g, i, n, py, pos, spos, elt, gens, scope, h, _, h1, h2, h3 => by simp [okE] at h
  | .mth _ _ _, p, X, er, g, i, n, py, pos, spos, elt, gens, scope, h, _, h1, h2, h3 => by simp [okE] at h
  | .isa _ _, p, X, er, g, i, n, py, pos, spos, elt, gens, scope, h, _, h1, h2, h3 => by simp [okE] at h
/-- .. one of a dict -/
theorem okAD_snd : ∀ (x : Ex) {p : Pl} {X : Cx} {er : ER} (g : Ag Γ C p X) {i : Nat} {n : Str} {py pos spos : Pos} {kx vx : Expr} {gens : List Comprehension} {scope : Scope}, okE Γ p x (.DictComp kx vx gens scope pos) = true →
    X.N[i]? = some n → X.env.scope.names.lookup n = some .local → swapsWith (.DictComp kx vx gens scope pos) (some (.Name n py)) spos.line X.env = pure true →
    PS X (.Assign [.Name n py] (.DictComp kx vx gens scope pos) spos) (tAsg (tE X.K er (ev C x)) (gName i))
  | .mut x, p, X, er, g, i, n, py, pos, spos, kx, vx, gens, scope, h, h1, h2, h3 => by
    unfold okE at h
    exact PS.weak (okAD_snd x g h h1 h2 h3) fun D σ H q => mut_rd q
  | .fz x, p, X, er, g, i, n, py, pos, spos, kx, vx, gens, scope, h, h1, h2, h3 => by
    unfold okE at h
    exact PS.weak (okAD_snd x g h h1 h2 h3) fun D σ H q => fz_rd q
  | .dcomp own t it c k x, p, X, er, g, i, n, py, pos, spos, kx, vx, gens, scope, h, q1, q2, q3 => by
    unfold okE at h
    split at h
    · rename_i kx' vx' tg iter ifs asy scope' pos' e0
      cases e0
      simp only [Bool.and_eq_true, decide_eq_true_eq] at h
      obtain ⟨⟨⟨⟨⟨⟨⟨⟨⟨h1, h2⟩, h3⟩, h4⟩, h4'⟩, h5⟩, h6⟩, h7⟩, h8⟩, h9⟩ := h
      subst h1
      rw [← h2]
      refine set_dcomp (D := ⟨fun _ _ => False, fun _ _ => False, fun _ _ => False, fun _ _ => False⟩) (σ := []) (H := fun _ => none) g.sur q1 q2 q3 (okI_snd it g tg iter h4 h4') (blkOk_by (by rw [g.nm, g.sc]; exact h3)) (fun s H A cl fp => okG_snd g.blk t tg h6) (fun s H A cl fp => ?_) (fun s H A cl fp => okE_snd k g.blk _ h8) (fun s H A cl fp => okE_snd x g.blk _ h9) (set_plain (not_t h5))
      split at h7
      · split at h7
        · refine ⟨fun pins s σ H Q I q => pts_nil.run pins s σ H Q I ?_⟩
          obtain ⟨E, S, ι, hE, hS, q⟩ := q
          unfold evT at q
          obtain ⟨b, e1, q⟩ := Post.lift q hS
          cases e1
          exact q
        · cases h7
      · exact pts_one (okT_snd c g.blk _ h7).1
      · cases h7
    · cases h
  | .var _, p, X, er, g, i, n, py, pos, spos, kx, vx, gens, scope, h, h1, h2, h3 => by simp [okE] at h
  | .cst _, p, X, er, g, i, n, py, pos, spos, kx, vx, gens, scope, h, h1, h2, h3 => by simp [okE] at h
  | .glb _ _, p, X, er, g, i, n, py, pos, spos, kx, vx, gens, scope, h, h1, h2, h3 => by simp [okE] at h
  | .tup _, p, X, er, g, i, n, py, pos, spos, kx, vx, gens, scope, h, h1, h2, h3 => by simp [okE] at h
  | .dis _, p, X, er, g, i, n, py, pos, spos, kx, vx, gens, scope, h, h1, h2, h3 => by simp [okE] at h
  | .dcs _, p, X, er, g, i, n, py, pos, spos, kx, vx, gens, scope, h, h1, h2, h3 => by simp [okE] at h
  | .dgt _ _, p, X, er, g, i, n, py, pos, spos, kx, vx, gens, scope, h, h1, h2, h3 => by simp [okE] at h
  | .dgt2 _ _ _, p, X, er, g, i, n, py, pos, spos, kx, vx, gens, scope, h, h1, h2, h3 => by simp [okE] at h
  | .dpop _ _ _, p, X, er, g, i, n, py, pos, spos, kx, vx, gens, scope, h, h1, h2, h3 => by simp [okE] at h
  | .sset _, p, X, er, g, i, n, py, pos, spos, kx, vx, gens, scope, h, h1, h2, h3 => by simp [okE] at h
  | .comp _ _ _ _ _, p, X, er, g, i, n, py, pos, spos, kx, vx, gens, scope, h, h1, h2, h3 => by simp [okE] at h
  | .bin _ _ _, p, X, er, g, i, n, py, pos, spos, kx, vx, gens, scope, h, h1, h2, h3 => by simp [okE] at h
  | .neg _, p, X, er, g, i, n, py, pos, spos, kx, vx, gens, scope, h, h1, h2, h3 => by simp [okE] at h
  | .not _, p, X, er, g, i, n, py, pos, spos, kx, vx, gens, scope, h, h1, h2, h3 => by simp [okE] at h
  | .and _ _, p, X, er, g, i, n, py, pos, spos, kx, vx, gens, scope, h, h1, h2, h3 => by simp [okE] at h
  | .or _ _, p, X, er, g, i, n, py, pos, spos, kx, vx, gens, scope, h, h1, h2, h3 => by simp [okE] at h
  | .cmp _ _ _, p, X, er, g, i, n, py, pos, spos, kx, vx, gens, scope, h, h1, h2, h3 => by simp [okE] at h
  | .chn _ _ _ _ _, p, X, er, g, i, n, py, pos, spos, kx, vx, gens, scope, h, h1, h2, h3 => by simp [okE] at h
  | .ite _ _ _, p, X, er, g, i, n, py, pos, spos, kx, vx, gens, scope, h, h1, h2, h3 => by simp [okE] at h
  | .idx _ _, p, X, er, g, i, n, py, pos, spos, kx, vx, gens, scope, h, h1, h2, h3 => by simp [okE] at h
  | .len _, p, X, er, g, i, n, py, pos, spos, kx, vx, gens, scope, h, h1, h2, h3 => by simp [okE] at h
  | .sl _ _ _, p, X, er, g, i, n, py, pos, spos, kx, vx, gens, scope, h, h1, h2, h3 => by simp [okE] at h
  | .rev _, p, X, er, g, i, n, py, pos, spos, kx, vx, gens, scope, h, h1, h2, h3 => by simp [okE] at h
  | .inG _ _ _, p, X, er, g, i, n, py, pos, spos, kx, vx, gens, scope, h, h1, h2, h3 => by simp [okE] at h
  | .calld _ _ _, p, X, er, g, i, n, py, pos, spos, kx, vx, gens, scope, h, h1, h2, h3 => by simp [okE] at h
  | .lens _, p, X, er, g, i, n, py, pos, spos, kx, vx, gens, scope, h, h1, h2, h3 => by simp [okE] at h
  | .smt _ _ _, p, X, er, g, i, n, py, pos, spos, kx, vx, gens, scope, h, h1, h2, h3 => by simp [okE] at h
  | .call _ _, p, X, er, g, i, n, py, pos, spos, kx, vx, gens, scope, h, h1, h2, h3 => by simp [okE] at h
  | .blt _ _, p, X, er, g, i, n, py, pos, spos, kx, vx, gens, scope, h, h1, h2, h3 => by simp [okE] at h
  | .mth _ _ _, p, X, er, g, i, n, py, pos, spos, kx, vx, gens, scope, h, h1, h2, h3 => by simp [okE] at h
  | .isa _ _, p, X, er, g, i, n, py, pos, spos, kx, vx, gens, scope, h, h1, h2, h3 => by simp [okE] at h
theorem swaps_hereD {kx vx : Expr} {gens : List Comprehension} {scope : Scope} {pos py : Pos} {n : Str} {l : Nat} {env : PySem.Env} (h1 : env.scope.names.lookup n = some .local) (h2 : py.line = pos.line) (h3 : env.scope.kind = .function)
    (h4 : (scope.names.any fun (m, k) => m == n && (k == .local || k == .cell)) = false) : swapsWith (.DictComp kx vx gens scope pos) (some (.Name n py)) l env = pure true := by
  show (pure (env.blockKind == .function && env.kindOf n == some .local && py.line == pos.line && !(scope.names.any fun (m, k) => m == n && (k == .local || k == .cell))) : Sem Bool) = _
  unfold Env.blockKind Env.kindOf
  rw [h1, h2, h3, h4]
  simp
theorem swaps_here {elt : Expr} {gens : List Comprehension} {scope : Scope} {pos py : Pos} {n : Str} {l : Nat} {env : PySem.Env} (h1 : env.scope.names.lookup n = some .local) (h2 : py.line = pos.line) (h3 : env.scope.kind = .function)
    (h4 : (scope.names.any fun (m, k) => m == n && (k == .local || k == .cell)) = false) : swapsWith (.ListComp elt gens scope pos) (some (.Name n py)) l env = pure true := by
  show (pure (env.blockKind == .function && env.kindOf n == some .local && py.line == pos.line && !(scope.names.any fun (m, k) => m == n && (k == .local || k == .cell))) : Sem Bool) = _
  unfold Env.blockKind Env.kindOf
  rw [h1, h2, h3, h4]
  simp
theorem swaps_cell {elt : Expr} {gens : List Comprehension} {scope : Scope} {pos py : Pos} {n : Str} {l : Nat} {env : PySem.Env} (h1 : env.scope.names.lookup n = some .cell) : swapsWith (.ListComp elt gens scope pos) (some (.Name n py)) l env = pure false := by
  show (pure (env.blockKind == .function && env.kindOf n == some .local && py.line == pos.line && !(scope.names.any fun (m, k) => m == n && (k == .local || k == .cell))) : Sem Bool) = _
  unfold Env.kindOf
  rw [h1]
  have e : (some NameKind.cell == some NameKind.local) = false := by decide
  rw [e]
  simp only [Bool.and_false, Bool.false_and]
theorem set_asg {e : Expr} {x : Ex} {i : Nat} {n : Str} {py pos : Pos} {p : Pl} {X : Cx} {er : ER} (g : Ag Γ C p X) (hg : okG p (.nm i) (.Name n py) = true) (he : okE Γ p x e = true) (hs : swapsWith e (some (.Name n py)) pos.line X.env = pure false) :
    sndS X er C (.Assign [.Name n py] e pos) (.asg (.nm i) x) := by
  unfold okG at hg
  simp only [Bool.and_eq_true] at hg
  obtain ⟨h1, h2⟩ := g.loc hg.2
  exact s_asg g.sur (g.at' hg.1) h1 (okE_snd x g e he) hs h2
theorem swaps_sole {t e : Expr} {l : Nat} {env : PySem.Env} (h : isComp e = false) : swapsWithSole [t] e l env = pure false := by
  show swapsWith e (some t) l env = pure false
  exact swaps_plain h
theorem fm_lt {α β : Type} {f : α → Option β} : ∀ {l : List α}, (∃ x ∈ l, f x = none) → (l.filterMap f).length ≠ l.length
  | [], h => by obtain ⟨x, hx, _⟩ := h; cases hx
  | a :: l, h => by
    have le := List.length_filterMap_le f l
    cases e : f a with
    | none => rw [List.filterMap_cons_none e, List.length_cons]; omega
    | some b =>
      obtain ⟨x, hx, q⟩ := h
      rcases List.mem_cons.mp hx with rfl | hx
      · rw [e] at q; cases q
      · have := fm_lt (f := f) ⟨x, hx, q⟩
        rw [List.filterMap_cons_some e, List.length_cons, List.length_cons]; omega
theorem swapped_off {p : Pl} {ts : List Expr} {k : _} {pt : Pos} {e : Expr} {env : PySem.Env} (h : offL p (.Tuple ts k pt) = true) (hp : ∀ n, ¬ (p.sc.names.lookup n = some .local) → ¬ (env.scope.names.lookup n = some .local)) : swappedStores [.Tuple ts k pt] e env = pure none := by
  unfold offL at h
  obtain ⟨t, ht, q⟩ := List.any_eq_true.mp h
  unfold swappedStores
  cases e <;> try rfl
  rename_i vs k2 p2
  have key : ∀ g : Expr → Option Str, g t = none → (ts.filterMap g).length ≠ ts.length := fun g hg => fm_lt ⟨t, ht, hg⟩
  simp only
  split
  · rfl
  · split
    · rfl
    · split
      · rfl
      · rename_i z
        exfalso
        apply z
        rw [Bool.or_eq_true]
        refine .inl ?_
        rw [bne_iff_ne]
        refine key _ ?_
        cases t <;> first | (cases q; done) | skip
        rename_i n pn
        simp only [Bool.not_eq_true'] at q
        have nl : ¬ (p.sc.names.lookup n = some .local) := fun z => by rw [z] at q; cases q
        have nl2 := hp n nl
        simp only
        rw [if_neg]
        intro z
        rw [Bool.and_eq_true] at z
        exact nl2 (eq_of_beq z.1)
theorem okG_name {p : Pl} {i : Nat} {tg : Expr} (h : okG p (.nm i) tg = true) : ∃ n py, tg = .Name n py := by
  unfold okG at h
  split at h
  · exact ⟨_, _, rfl⟩
  · cases h
mutual
theorem okS_snd : ∀ (m : Sm) {p : Pl} {X : Cx} {er : ER} (g : Ag Γ C p X) (s : Stmt), okS Γ p m s = true → sndS X er C s m
  | .asg t x, p, X, er, g, s, h => by
    unfold okS at h
    split at h
    · rename_i tg e pos
      split at h
      · rename_i i
        simp only [Bool.and_eq_true] at h
        obtain ⟨⟨h1, h2⟩, h3⟩ := h
        obtain ⟨n, py, rfl⟩ := okG_name h1
        split at h3
        · rename_i elt gens scope cpos
          simp only at h3
          split at h3
          · rename_i hl
            simp only [Bool.and_eq_true, decide_eq_true_eq] at h3
            obtain ⟨q1, ⟨q0, q2⟩, q3⟩ := h3
            have hl' : X.env.scope.names.lookup n = some .local := by rw [g.sc]; exact hl
            have hi : X.N[i]? = some n := by
              unfold okG at h1
              simp only [Bool.and_eq_true] at h1
              exact g.at' h1.1
            exact s_asg1 (okA_snd x g h2 (not_t q0) hi hl' (swaps_here hl' q1 (by rw [g.sc]; exact q3) (not_t q2)))
          · rename_i hl
            exact set_asg g h1 h2 (swaps_cell (by rw [g.sc]; exact hl))
          · cases h3
        · rename_i kx vx gens scope cpos
          simp only at h3
          split at h3
          · rename_i hl
            simp only [Bool.and_eq_true, decide_eq_true_eq] at h3
            obtain ⟨⟨q1, q2⟩, q3⟩ := h3
            have hl' : X.env.scope.names.lookup n = some .local := by rw [g.sc]; exact hl
            have hi : X.N[i]? = some n := by
              unfold okG at h1
              simp only [Bool.and_eq_true] at h1
              exact g.at' h1.1
            exact s_asg1 (okAD_snd x g h2 hi hl' (swaps_hereD hl' q1 (by rw [g.sc]; exact q3) (not_t q2)))
          · cases h3
        · exact set_asg g h1 h2 (swaps_plain (not_t h3))
      · rename_i ts
        simp only [Bool.and_eq_true] at h
        obtain ⟨⟨⟨h1, h2⟩, h3⟩, h4⟩ := h
        have hg := okG_snd g _ _ h1
        unfold okG at h1
        split at h1
        · refine s_asgT (okE_snd x g e h2) hg (swaps_sole (not_t h3)) ?_ rfl
          rw [Bool.or_eq_true] at h4
          rcases h4 with h4 | h4
          · exact swapped_plain (not_t h4)
          · exact swapped_off h4 fun n hn z => hn (by rw [← g.sc]; exact z)
        · cases h1
    · cases h
  | .aug _ _ _, p, X, er, g, s, h => by simp [okS] at h
  | .frz _, p, X, er, g, s, h => by simp [okS] at h
  | .star i j x, p, X, er, g, s, h => by
    unfold okS at h
    split at h
    · rename_i n pn m pm pt _ _ e pos
      simp only [Bool.and_eq_true, decide_eq_true_eq] at h
      obtain ⟨⟨⟨⟨⟨⟨h1, h2⟩, h3⟩, h4⟩, h5⟩, h6⟩, h7⟩ := h
      split at h4
      · rename_i l1 l2
        exact s_star g.sur (g.at' h1) (g.at' h2) h3 (by rw [g.sc]; exact l1) (by rw [g.sc]; exact l2) (okE_snd x g e h5) (swaps_sole (not_t h6)) (swapped_plain (not_t h7))
      · cases h4
    · cases h
  | .par i j x y, p, X, er, g, s, h => by
    unfold okS at h
    split at h
    · rename_i n px m py _ _ a b _ _ pos
      simp only [Bool.and_eq_true, decide_eq_true_eq] at h
      obtain ⟨⟨⟨⟨⟨⟨⟨⟨⟨h1, h2⟩, h3⟩, h4⟩, h5⟩, h6⟩, h7⟩, h8⟩, h9⟩, h10⟩ := h
      split at h4
      · rename_i l1 l2
        have st := okEs_star h8
        refine s_par g.sur (g.at' h1) (g.at' h2) h3 (by rw [g.sc]; exact l1) (by rw [g.sc]; exact l2) (by rw [g.sc]; exact h5) h6 h7 (okEs_snd _ g _ h8) ?_ (not_t h9) (not_t h10)
        have gen : ∀ es : List Expr, es.all (fun e => !isStar e) = true → es.any (fun | .Starred .. => true | _ => false) = false := by
          intro es
          induction es with
          | nil => intro _; rfl
          | cons e es ih =>
            intro h
            rw [List.all_cons, Bool.and_eq_true] at h
            rw [List.any_cons, ih h.2]
            cases e <;> first | rfl | (exact absurd h.1 (by simp [isStar]))
        exact gen _ st
      · cases h4
    · cases h
  | .par3 i j k x y z, p, X, er, g, s, h => by
    unfold okS at h
    split at h
    · rename_i n px m py o pz _ _ a b c _ _ pos
      simp only [Bool.and_eq_true, decide_eq_true_eq] at h
      obtain ⟨⟨⟨⟨⟨⟨⟨⟨⟨⟨⟨⟨⟨⟨⟨h1, h2⟩, h2'⟩, h3⟩, h3'⟩, h3''⟩, h4⟩, h5⟩, h6⟩, h6'⟩, h6''⟩, h7⟩, h7'⟩, h8⟩, h9⟩, h10⟩ := h
      split at h4
      · rename_i l1 l2 l3
        have st := okEs_star h8
        refine s_par3 g.sur (g.at' h1) (g.at' h2) (g.at' h2') h3 h3' h3'' (by rw [g.sc]; exact l1) (by rw [g.sc]; exact l2) (by rw [g.sc]; exact l3) (by rw [g.sc]; exact h5) h6 h6' h6'' h7 h7' (okEs_snd _ g _ h8) ?_ (not_t h9) (not_t h10)
        have gen : ∀ es : List Expr, es.all (fun e => !isStar e) = true → es.any (fun | .Starred .. => true | _ => false) = false := by
          intro es
          induction es with
          | nil => intro _; rfl
          | cons e es ih =>
            intro h
            rw [List.all_cons, Bool.and_eq_true] at h
            rw [List.any_cons, ih h.2]
            cases e <;> first | rfl | (exact absurd h.1 (by simp [isStar]))
        exact gen _ st
      · cases h4
    · cases h
  | .setI x y z, p, X, er, g, s, h => by
    unfold okS at h
    split at h
    · simp only [Bool.and_eq_true] at h
      obtain ⟨⟨⟨⟨h1, h2⟩, h3⟩, h4⟩, h5⟩ := h
      exact s_setI g.sur (okE_snd z g _ h1) (okE_snd x g _ h2) (okE_snd y g _ h3) (asg_sub (not_t h4)) (swaps_sole (not_t h5)) swapped_sub rfl
    · cases h
  | .expr x, p, X, er, g, s, h => by
    unfold okS at h
    split at h
    · simp only [Bool.and_eq_true] at h
      exact s_expr (okE_snd x g _ h.1) (swaps_plain (not_t h.2))
    · cases h
  | .ret x, p, X, er, g, s, h => by
    unfold okS at h
    split at h
    · exact s_ret (okE_snd x g _ h)
    · cases h
  | .retN, p, X, er, g, s, h => by
    unfold okS at h
    split at h
    · exact s_retN
    · cases h
  | .ite x a b, p, X, er, g, s, h => by
    unfold okS at h
    split at h
    · simp only [Bool.and_eq_true] at h
      obtain ⟨⟨h1, h2⟩, h3⟩ := h
      exact s_ite (okT_snd x g _ h1).1 (okSs_snd a g _ h2) (okSs_snd b g _ h3)
    · cases h
  | .loop t it b, p, X, er, g, s, h => by
    unfold okS at h
    split at h
    · simp only [Bool.and_eq_true] at h
      obtain ⟨⟨⟨⟨h1, h2⟩, h2'⟩, h3⟩, h4⟩ := h
      by_cases dd : isD it = true
      · rw [if_pos dd] at h2
        cases it with
        | keys i =>
          unfold okD at h2
          dsimp only at h2
          split at h2
          · simp only [Bool.and_eq_true] at h2
            obtain ⟨d1, d2⟩ := nm_dbg h2.2
            exact s_loopK g.pass g.sur (g.at' h2.1.1) (by rw [g.sc]; exact visB_vis h2.1.2) d1 d2 (okG_snd g t _ h1) (fun er => okSs_snd b g _ h4) (set_plain (not_t h3))
          · cases h2
        | items i =>
          unfold okD at h2
          dsimp only at h2
          split at h2
          · simp only [Bool.and_eq_true, decide_eq_true_eq] at h2
            obtain ⟨⟨⟨⟨⟨k1, k2⟩, k3⟩, k4⟩, k5⟩, k6⟩ := h2
            subst k1
            obtain ⟨d1, d2⟩ := nm_dbg k4
            obtain ⟨es, kk, tp, rfl⟩ := isTupE_eq k6
            exact s_loopI g.pass g.sur (g.at' k2) (by rw [g.sc]; exact visB_vis k3) d1 d2 (okG_snd g t _ h1) (fun er => okSs_snd b g _ h4) (base_name rfl) k5 (set_plain (not_t h3))
          · cases h2
        | x _ => cases dd
        | rng _ => cases dd
        | rng2 _ _ => cases dd
        | enum _ => cases dd
        | zip _ _ => cases dd
      · rw [if_neg dd] at h2
        exact s_loop g.pass g.sur (okI_snd it g _ _ h2 h2') (okG_snd g t _ h1) (okSs_snd b g _ h4) (set_plain (not_t h3))
    · cases h
  | .whl x b, p, X, er, g, s, h => by
    unfold okS at h
    split at h
    · simp only [Bool.and_eq_true] at h
      exact s_whl g.pass (okT_snd x g _ h.1).1 (okSs_snd b g _ h.2)
    · cases h
  | .pass, p, X, er, g, s, h => by
    unfold okS at h
    split at h
    · exact s_pass
    · cases h
  | .brk, p, X, er, g, s, h => by
    unfold okS at h
    split at h
    · exact s_brk
    · cases h
  | .cnt, p, X, er, g, s, h => by
    unfold okS at h
    split at h
    · exact s_cnt
    · cases h
  | .raise _ _, p, X, er, g, s, h => s_never
theorem okSs_snd : ∀ (ms : Sms) {p : Pl} {X : Cx} {er : ER} (g : Ag Γ C p X) (ss : List Stmt), okSs Γ p ms ss = true → sndSs X er C ss ms
  | .nil, p, X, er, g, ss, h => by
    unfold okSs at h
    split at h
    · exact ss_nil
    · cases h
  | .cons m ms, p, X, er, g, ss, h => by
    unfold okSs at h
    split at h
    · exact ss_frz (okSs_snd ms g ss h)
    · split at h
      · rw [Bool.and_eq_true] at h
        exact ss_cons (okS_snd m g _ h.1) (okSs_snd ms g _ h.2)
      · cases h
end
end
end Lf

set_option Elab.async false
set_option linter.all false
set_option maxRecDepth 100000
set_option maxHeartbeats 4000000
/-! All defs of a text; the law's end. -/
namespace Lf
open PySem PySem.Spec PyProof.Rows L2

inductive Al {α : Type} (P : α → Prop) : List α → Prop where
  | nil : Al P []
  | cons {a : α} {r : List α} : P a → Al P r → Al P (a :: r)
theorem Al.get {α : Type} {P : α → Prop} : ∀ {l : List α} {i : Nat} {a : α}, Al P l → l[i]? = some a → P a
  | _, _, _, .nil, e => by simp at e
  | _, 0, _, .cons h _, e => by simp at e; subst e; exact h
  | _, i + 1, _, .cons _ t, e => Al.get (i := i) t (by simpa using e)
theorem Al.mem {α : Type} {P : α → Prop} {l : List α} {a : α} (h : Al P l) (m : a ∈ l) : P a := by
  obtain ⟨i, e⟩ := List.mem_iff_getElem?.mp m
  exact h.get e
/-- a written def and its small form -/
structure Row where
  x : Str
  st : Stmt
  fn : Fn
  N : List Str
  ps : List Str
def rowB (Γ : Tab) (r : Row) : Bool :=
  C8.scC r.N r.ps (defScope r.st) && decide (r.fn.ns = r.N.length) && decide (r.fn.np = r.ps.length) && okSs Γ ⟨r.N, defScope r.st, defScope r.st⟩ r.fn.body (defBody r.st)
def BindOk (r : Row) : Prop := ∀ (kV doc pm : Value) (an : Option Addr) (cdv ct : Value) (us : List Value), us.length = r.ps.length → bindArgs (PySem.W.fnOf r.x r.x (defArgs r.st) (defBody r.st) (defScope r.st) .none kV doc pm an cdv ct) ⟨us, []⟩ = pure (r.ps.zip us)
/-- the same of a def with defaults (n of them) that are all given -/
def BindOkD (n : Nat) (r : Row) : Prop := ∀ (T : Addr) (kV doc pm : Value) (an : Option Addr) (cdv ct : Value) (us its : List Value), us.length = r.ps.length → its.length = n →
  ∃ k, bindArgs (PySem.W.fnOf r.x r.x (defArgs r.st) (defBody r.st) (defScope r.st) (.ref T) kV doc pm an cdv ct) ⟨us, []⟩ = seqItems? (.ref T) >>= k ∧ k (some its.toArray) = pure (r.ps.zip us)
/-- .. of which none is given -/
def BindOkF (n : Nat) (r : Row) : Prop := ∀ (T : Addr) (kV doc pm : Value) (an : Option Addr) (cdv ct : Value) (us its : List Value), us.length + n = r.ps.length → its.length = n →
  ∃ k, bindArgs (PySem.W.fnOf r.x r.x (defArgs r.st) (defBody r.st) (defScope r.st) (.ref T) kV doc pm an cdv ct) ⟨us, []⟩ = seqItems? (.ref T) >>= k ∧ k (some its.toArray) = pure (r.ps.zip (us ++ its))
/-- as it stands behind the top -/
structure DefAt (K : PySem.W.Frag) (Γ : Tab) (r : Row) : Prop where
  ex : ∃ (f : Addr) (fd : FuncData), FunV K r.x r.x r.st f fd ∧ PySem.W.keepIn K (.ref f) = true ∧ PySem.W.nsIn K mainGlobals r.x = some (some (.ref f)) ∧ Binds K fd r.ps [] ∧ ∀ dd, Γ.dfl.lookup r.x = some dd → ∃ ds dvs, atomsV dd = some dvs ∧ Vals dvs ds ∧ Binds K fd r.ps ds
theorem defAt {K : PySem.W.Frag} {Γ : Tab} {r : Row} {f : Addr} {oc : Value} {od an : Option Addr} {osl : Array (Option Value)} {kV doc pm cdv ct : Value} (b : BindOk r) (a : PySem.W.nsIn K mainGlobals r.x = some (some (.ref f)))
    (l : K.lookup f = some ⟨oc, od, .func (PySem.W.fnOf r.x r.x (defArgs r.st) (defBody r.st) (defScope r.st) .none kV doc pm an cdv ct), osl⟩)
    (c : PySem.W.codeIn K cdv r.x = true) (k : PySem.W.keepIn K (.ref f) = true) (no : Γ.dfl.lookup r.x = none) : DefAt K Γ r :=
  ⟨f, _, ⟨oc, od, .none, kV, doc, pm, an, cdv, ct, osl, rfl, l, c⟩, k, a, .all (b kV doc pm an cdv ct), fun dd e => by rw [no] at e; cases e⟩
theorem defAtD {K : PySem.W.Frag} {Γ : Tab} {r : Row} {dd : List PyData} {dvs : List V} {n m : Nat} {f T : Addr} {oc tc : Value} {od td an : Option Addr} {osl tsl : Array (Option Value)} {kV doc pm cdv ct : Value} {its : List Value} (b : BindOkD n r) (b2 : BindOkF n r) (a : PySem.W.nsIn K mainGlobals r.x = some (some (.ref f)))
    (l : K.lookup f = some ⟨oc, od, .func (PySem.W.fnOf r.x r.x (defArgs r.st) (defBody r.st) (defScope r.st) (.ref T) kV doc pm an cdv ct), osl⟩)
    (c : PySem.W.codeIn K cdv r.x = true) (k : PySem.W.keepIn K (.ref f) = true) (t : K.lookup T = some ⟨tc, td, .seq its.toArray m, tsl⟩) (z : its.length = n) (hd : Γ.dfl.lookup r.x = some dd) (hv : atomsV dd = some dvs) (rv : Vals dvs its) : DefAt K Γ r := by
  refine ⟨f, _, ⟨oc, od, .ref T, kV, doc, pm, an, cdv, ct, osl, rfl, l, c⟩, k, a, fun s us X hl => ?_, fun d2 e => ?_⟩
  case refine_2 =>
    rw [hd] at e
    cases e
    refine ⟨its, dvs, hv, rv, fun s us X hl => ?_⟩
    rw [List.length_append, z] at hl
    obtain ⟨go, e1, e2⟩ := b2 T kV doc pm an cdv ct us its hl z
    refine BindsTo.of_looks fun M => ?_
    rw [e1]
    exact looks_items X t rfl (.of_pure e2)
  rw [List.append_nil] at hl ⊢
  obtain ⟨go, e1, e2⟩ := b T kV doc pm an cdv ct us its hl z
  refine BindsTo.of_looks fun M => ?_
  rw [e1]
  exact looks_items X t rfl (.of_pure e2)
structure CstAt (K : PySem.W.Frag) (p : Str × PyData) : Prop where
  ex : ∃ u v, PySem.W.nsIn K mainGlobals p.1 = some (some u) ∧ atomV1 p.2 = some v ∧ RelV v u
theorem cst_str {K : PySem.W.Frag} {n x : Str} {t : Tok} (a : PySem.W.nsIn K mainGlobals n = some (some (.str x t))) : CstAt K (n, .str x) := ⟨_, .str x, a, rfl, ⟨t, rfl⟩⟩
theorem cst_int {K : PySem.W.Frag} {n : Str} {i : Int} {t : Tok} (a : PySem.W.nsIn K mainGlobals n = some (some (.int i t))) : CstAt K (n, .int i) := ⟨_, .int i, a, rfl, ⟨t, rfl⟩⟩
structure TupsAt (K : PySem.W.Frag) (p : Str × List Str) : Prop where
  ex : ∃ T, PySem.W.nsIn K mainGlobals p.1 = some (some (.ref T)) ∧ SqT K noHp T (p.2.map V.str)
theorem tupsAt {K : PySem.W.Frag} {n : Str} {ys : List Str} {T : Addr} {od : Option Addr} {its : Array Value} {m : Nat} {sl : Array (Option Value)} (a : PySem.W.nsIn K mainGlobals n = some (some (.ref T))) (l : K.lookup T = some ⟨.type "tuple", od, .seq its m, sl⟩) (z : its.size ≤ sizeLine) (r : Vals (ys.map V.str) its.toList) : TupsAt K (n, ys) :=
  ⟨T, a, .inr ⟨_, its, m, l, rfl, rfl, z, r⟩⟩
def NoneAt (K : PySem.W.Frag) (n : Str) : Prop := PySem.W.nsIn K mainGlobals n = some none
theorem noneAt {K : PySem.W.Frag} {n : Str} (z : PySem.W.nsIn K mainGlobals n = some none) : NoneAt K n := z
section
variable {P : Program} {w : World} {K : PySem.W.Frag} {mg : Str → Option Value} {base : Heap} {Γ : Tab} {rows : List Row}
abbrev spF (K : PySem.W.Frag) (rows : List Row) (k i : Nat) : List V → Hp → VK → Prop := fun us H Q => ∃ er, rCal K er (run (rows.map (·.fn)) k) i us H Q
theorem all_fns (hΓ : Γ.fns = rows.map (·.x)) (hB : rows.all (rowB Γ) = true) (KX : K.In base) (G : base.Ns mainGlobals mg) (hD : Al (DefAt K Γ) rows) (hC : Al (CstAt K) Γ.cst) (hN : Al (NoneAt K) Γ.bls) (hT : Al (TupsAt K) Γ.tups) :
    ∀ (k i : Nat) (n : Str), Γ.fns[i]? = some n → CalG P w K mg base k n (Γ.dfl.lookup n) (spF K rows k i) := by
  intro k
  induction k with
  | zero =>
    intro i n hn
    rw [hΓ, List.getElem?_map] at hn
    cases hr : rows[i]? with
    | none => rw [hr] at hn; cases hn
    | some r =>
      rw [hr] at hn
      cases hn
      obtain ⟨f, fd, F, kp, a, bd, bf⟩ := (hD.get hr).ex
      refine ⟨f, fd, r.ps, ⟨fun vs H Q ⟨er, vs', S, ι, _, _, h⟩ => ?_, fun A outer s H args us vs Q E _ _ _ _ _ ⟨er, vs', S, ι, _, _, h⟩ => ?_⟩, PySem.W.mg_of KX G a, kp, bd, bf⟩
      · unfold run at h; exact h.elim
      · unfold run at h; exact h.elim
  | succ k ih =>
    intro i n hn
    rw [hΓ, List.getElem?_map] at hn
    cases hr : rows[i]? with
    | none => rw [hr] at hn; cases hn
    | some r =>
      rw [hr] at hn
      cases hn
      obtain ⟨f, fd, F, kp, a, bd, bf⟩ := (hD.get hr).ex
      have hrow : rowB Γ r = true := List.all_eq_true.mp hB r (List.mem_of_getElem? hr)
      unfold rowB at hrow
      simp only [Bool.and_eq_true, decide_eq_true_eq] at hrow
      obtain ⟨⟨⟨h1, h2⟩, h3⟩, h4⟩ := hrow
      have S := C8.fnScope_by h1
      have hf : (rows.map (·.fn))[i]? = some r.fn := by rw [List.getElem?_map, hr]; rfl
      refine ⟨f, fd, r.ps, fnG0 F S (fun vs H Q ⟨er, h⟩ => by rw [← h3]; exact (cal_body hf h2 h).1) (fun cdv A outer s H vs Q E hroom hg ⟨er, h⟩ => ?_), PySem.W.mg_of KX G a, kp, bd, bf⟩
      obtain ⟨_, t⟩ := cal_body hf h2 h
      have g : Ag Γ (run (rows.map (·.fn)) k) ⟨r.N, defScope r.st, defScope r.st⟩ (cxOf CX0 P w K mg base r.N r.x (defScope r.st) f cdv A outer s H E).nox :=
        { sur := ⟨rfl, S.nd, hg, by have := hroom.un; show (A.deeper _).units + 180 < cLine; omega⟩
          xe := rfl
          nm := rfl
          sc := rfl
          st := fun _ _ => rfl
          fns := fun j m hm => ⟨k, hroom, ih j m hm⟩
          cst := fun m c hm => by
            have hmem : (m, c) ∈ Γ.cst := PySem.mem_of_lookup hm
            obtain ⟨u, v, e1, e2, e3⟩ := hC.mem hmem
            exact ⟨u, v, PySem.W.mg_of KX G e1, e2, e3⟩
          bls := fun m hm => PySem.W.mg_none_of KX G (hN.mem hm)
          tups := fun m ys hm => by
            obtain ⟨T, e1, e2⟩ := (hT.mem (PySem.mem_of_lookup hm)).ex
            exact ⟨T, PySem.W.mg_of KX G e1, e2⟩ }
      exact ⟨_, okSs_snd (er := er) r.fn.body g (defBody r.st) h4, t⟩
end

/-! ### the law's end -/
section
variable {P : Program} {w : World} {K : PySem.W.Frag} {a : Addr} {vs : List Value} {ns : List Int} {st : Shared}
/-- the script's object -/
abbrev scrO (vs : List Value) : Obj := { cls := .type "list", data := .seq vs.toArray }
open Classical in
/-- what is watched ahead of the law: the script, where the text did not write it -/
noncomputable def seen (K : PySem.W.Frag) (a : Addr) (vs : List Value) (ns : List Int) : Hp := fun b =>
  if b = a ∧ K.lookup a = none then some (.frz (scrO vs) (.lst (ns.map V.int))) else none
theorem seen_some {b : Addr} {u : HO} (h : seen K a vs ns b = some u) : b = a ∧ K.lookup a = none ∧ u = .frz (scrO vs) (.lst (ns.map V.int)) := by
  unfold seen at h
  split at h
  · rename_i q; exact ⟨q.1, q.2, (Option.some.inj h).symm⟩
  · cases h
theorem seen_off {b : Addr} (h : ∀ u, seen K a vs ns b = some u → False) : seen K a vs ns b = none := by
  cases q : seen K a vs ns b with
  | none => rfl
  | some u => exact (h u q).elim
theorem seen_only : Only (seen K a vs ns) := fun b => by
  cases q : seen K a vs ns b with
  | none => exact .inl rfl
  | some u => obtain ⟨_, _, rfl⟩ := seen_some q; exact .inr ⟨_, _, rfl⟩
theorem seen_seq (KX : K.In st.heap) (ha : st.heap.get? a = some (scrO vs)) (hi : IntsAre vs ns) (hl : ns.length ≤ sizeLine) : SqL K (seen K a vs ns) a (ns.map V.int) := by
  cases q : K.lookup a with
  | none => exact .inl (.inr ⟨scrO vs, by unfold seen; rw [if_pos ⟨rfl, q⟩]⟩)
  | some o =>
    have e := ha.symm.trans (KX a o q)
    cases e
    have hz : vs.toArray.size ≤ sizeLine := by rw [List.size_toArray, hi.length]; exact hl
    exact .inr ⟨_, _, _, q, rfl, rfl, rfl, hz, by rw [List.toList_toArray]; exact vals_ints hi⟩
theorem seen_ok (ha : st.heap.get? a = some (scrO vs)) (hi : IntsAre vs ns) (hl : ns.length ≤ sizeLine) : HOk P w (seen K a vs ns) st.heap := fun b u h => by
  obtain ⟨rfl, _, rfl⟩ := seen_some h
  exact ⟨ha, by rw [List.length_map]; exact hl, vs, 0, vals_ints hi, ha⟩
/-- a dict is not watched, nor is what the text has written -/
theorem seen_dict {b : Addr} {o : Obj} {es : Array DictEntry} {n : Nat} (ha : st.heap.get? a = some (scrO vs)) (e : st.heap.get? b = some o) (d : o.data = .dict es n) : seen K a vs ns b = none :=
  seen_off fun u h => by
    obtain ⟨rfl, _, _⟩ := seen_some h
    rw [ha] at e
    cases e
    exact absurd d (by show Data.seq _ _ ≠ Data.dict _ _; exact nofun)
theorem seen_ns {b : Addr} {m : Str → Option Value} (ha : st.heap.get? a = some (scrO vs)) (h : st.heap.Ns b m) : (hidT st.heap (seen K a vs ns)).Ns b m := by
  obtain ⟨o, es, n, e, d, r⟩ := h
  exact ⟨o, es, n, hidT_get e (seen_dict ha e d), d, r⟩
theorem seen_in (KX : K.In st.heap) : K.In (hidT st.heap (seen K a vs ns)) := fun b o e =>
  hidT_get (KX b o e) (seen_off fun u h => by
    obtain ⟨rfl, q, _⟩ := seen_some h
    rw [q] at e
    cases e)
theorem law_callG {mg mb : Str → Option Value} {k : Nat} {fa : Addr} {x : Str} {D : Option (List PyData)} {sp : List V → Hp → VK → Prop} (KX : K.In st.heap) (hns : st.heap.Ns mainGlobals mg) (hb : st.heap.Ns builtinsNs mb) (hbb : ∀ y : Str, y ≠ "__name__" → mb y = bootBuiltins y)
    (lim : st.heap.NoLimit) (bare : st.gens = #[]) (ha : st.heap.get? a = some (scrO vs)) (hi : IntsAre vs ns) (hl : ns.length ≤ sizeLine) (room : Room k callerA) (hmg : mg x = some (.ref fa))
    (F : ∀ base : Heap, K.In base → base.Ns mainGlobals mg → CalG P w K mg base k x D sp) (hsp : ∀ H : Hp, Only H → SqL K H a (ns.map V.int) → sp [.ref a] H (fun v _ => v = .bl true)) :
    codeAny (model P w) callerA (.call (.ref fa) ⟨[.ref a], []⟩) (fun r s' => r = .ok (.ret (.bool true)) ∧ OldK st.heap s'.heap ∧ s'.os = st.os ∧ AllBare s'.gens) st := by
  have inB : K.In (hidT st.heap (seen K a vs ns)) := seen_in KX
  obtain ⟨f, fd, ps, G, m1, _, bd, _⟩ := F _ inB (seen_ns ha hns)
  obtain rfl : fa = f := by rw [hmg] at m1; cases m1; rfl
  have want := hsp _ seen_only (seen_seq KX ha hi hl)
  have one : 1 = ps.length := G.len _ _ _ want
  have env : Env0 P w K mg (hidT st.heap (seen K a vs ns)) callerA [] st (seen K a vs ns) :=
    { frames := rfl
      mod := ⟨inB, seen_ns ha hns, ⟨mb, seen_ns ha hb, hbb⟩, by obtain ⟨mc, l1, l2⟩ := lim; exact ⟨mc, seen_ns ha l1, l2⟩⟩
      bs := fun _ _ e => of_hidT e
      bsz := by rw [hidT_size]; exact Nat.le_refl _
      funs := trivial
      frf := fun b z => by cases (show b ∈ ([] : List Addr) from z)
      hok := seen_ok ha hi hl
      bare := .of_eq bare }
  have bound : BindsTo st fd ⟨[.ref a], []⟩ (ps.zip ([Value.ref a] ++ [])) := bd st [.ref a] KX (by rw [← one]; rfl)
  have vals : Vals [V.ref a] ([Value.ref a] ++ []) := Paired.cons rfl .nil
  have done := G.run callerA [] st _ _ _ _ _ (fun _ _ _ => False) room rfl env bound vals want
  refine codeAny_mono done fun r s' h => ?_
  match r, h with
  | .error _, h => exact absurd (show False from h) id
  | .ok .next, h => exact absurd (show False from h) id
  | .ok .brk, h => exact absurd (show False from h) id
  | .ok .cont, h => exact absurd (show False from h) id
  | .ok (.ret u), h =>
    obtain ⟨v, H', h1, h2, h3, h4, h5, (rfl : v = .bl true)⟩ := h
    obtain rfl : u = .bool true := h5
    have nil : ∀ b : Addr, b ∉ ([] : List Addr) := fun _ z => by cases z
    refine ⟨rfl, OldK.of_keep fun b o e => ?_, h1, h2⟩
    cases q : seen K a vs ns b with
    | none => exact h3.keep b o e q (nil b) (nil b)
    | some u =>
      obtain ⟨rfl, _, rfl⟩ := seen_some q
      have := (h4 b _ (h3.frzs b _ _ q)).1
      rw [ha] at e
      cases e
      exact this
end
/-- the law's answer by its run -/
theorem sp_of_run {K : PySem.W.Frag} {rows : List Row} {k i : Nat} {ns : List Int} {H : Hp} {a : Addr} (h : run (rows.map (·.fn)) k i [.scr ns] [] = .ok (.val (.d (.bool true))) []) (hS : SqL K H a (ns.map V.int)) :
    spF K rows k i [.ref a] H (fun v _ => v = .bl true) := by
  refine ⟨er0, [.scr ns], [], .nil, StOk.nil K H, .cons ⟨a, rfl, ?_⟩ .nil, ?_⟩
  · rcases hS with h | h
    · exact .inl ⟨h, Adr.nil_av a⟩
    · exact .inr (.inr h)
  · rw [h]
    intro ι' H' s q u hu
    have hu : RD K ι' H' (.bool true) u := hu
    cases hu
    rfl
theorem walkG {l : PySem.W.OpenLaw} {n k i : Nat} {q : Program} {loose : List Str} {XP : (Str → Option Value) → Heap → Prop} {YP : World → Heap → Prop} {d : DefRec} {K : Params → PySem.W.Frag} {Γ : Tab} {rows : List Row}
    (hn : l.most = some n) (hn2 : n ≤ sizeLine) (hdf : d.params.defaults = []) (hr : Room k callerA)
    (hY : ∀ (w : World) (h : Heap), YP w h → (K w.params).In h)
    (hΓ : Γ.fns = rows.map (·.x)) (hB : rows.all (rowB Γ) = true) (hi : Γ.fns[i]? = some d.name)
    (F : ∀ w : World, Al (DefAt (K w.params) Γ) rows ∧ Al (CstAt (K w.params)) Γ.cst ∧ Al (NoneAt (K w.params)) Γ.bls ∧ Al (TupsAt (K w.params)) Γ.tups)
    (hrun : ∀ ns : List Int, ns.length ≤ n → (∀ z ∈ ns, Builtin.Int.intBits z ≤ 1048576) → run (rows.map (·.fn)) k i [.scr ns] [] = .ok (.val (.d (.bool true))) []) :
    PySem.W.WalkO q loose XP YP l.row.toRowW d [] (fun f vs => PySem.call f vs) := by
  refine Att.attach_callB hn hdf fun w s₀ s₁ mg mb fa o pm cd doc a vs ns G Y ho hd hcd hmg hobj hints hlen hbits hg => ?_
  have KX := hY w _ Y
  obtain ⟨f1, f2, f3, f4⟩ := F w
  exact law_callG KX G.T.g G.T.b G.T.builtins G.T.nolimit hg hobj hints (Nat.le_trans hlen hn2) hr hmg (fun base kb nb => all_fns hΓ hB kb nb f1 f2 f3 f4 k i d.name hi) fun H hO hS => sp_of_run (hrun ns hlen hbits) hS
end Lf

set_option Elab.async false
set_option linter.all false
set_option maxRecDepth 100000
set_option maxHeartbeats 4000000
/-! How long a shown thing is at most. -/
namespace Lf
open PySem PySem.Spec PyProof.Rows L2

mutual
def okc : PyData → Bool
  | .none | .bool _ | .int _ => true
  | .str x => x.cps.toList.all fun c => decide (c < 4294967296)
  | .list xs | .tuple xs => okcs xs
  | .dict kvs => okck kvs
def okcs : List PyData → Bool
  | [] => true
  | x :: xs => okc x && okcs xs
def okck : List (PyData × PyData) → Bool
  | [] => true
  | (k, v) :: r => okc k && okc v && okck r
end
mutual
def cost : PyData → Nat
  | .none => 4
  | .bool _ => 5
  | .int i => (Str.ofString (toString i)).length
  | .str x => 10 * x.length + 2
  | .list xs => 2 + costs xs
  | .tuple xs => 3 + costs xs
  | .dict kvs => 2 + costk kvs
def costs : List PyData → Nat
  | [] => 0
  | x :: xs => cost x + 2 + costs xs
def costk : List (PyData × PyData) → Nat
  | [] => 0
  | (k, v) :: r => cost k + cost v + 4 + costk r
end
theorem textFrom_le : ∀ (ts : List Str) (k : Nat) (acc : Str), (PySem.textFrom k acc ts).length ≤ acc.length + piled ts
  | [], k, acc => by unfold PySem.textFrom; simp [piled]
  | t :: ts, k, acc => by
    unfold PySem.textFrom
    have h := textFrom_le ts (k + 1) (acc ++ (if k > 0 then ", " else "" : String) ++ t)
    rw [piled_cons]
    have e : (acc ++ (if k > 0 then ", " else "" : String) ++ t).length ≤ acc.length + 2 + t.length := by
      rw [strLen_append, strLen_append]
      split
      · show acc.length + 2 + t.length ≤ _; omega
      · show acc.length + 0 + t.length ≤ _; omega
    omega
theorem join_le (ts : List Str) : (Str.join ", " ts).length ≤ piled ts := by
  by_cases h : ts = []
  · subst h; show 0 ≤ _; exact Nat.zero_le _
  · have := join_length_add ts h; omega
mutual
theorem shown_le : ∀ d : PyData, okc d = true → d.shown.length ≤ cost d
  | .none, _ => by unfold cost; simp only [PyData.shown]; decide
  | .bool b, _ => by unfold cost; simp only [PyData.shown]; cases b <;> decide
  | .int i, _ => by unfold cost; simp only [PyData.shown]; exact Nat.le_refl _
  | .str x, h => by
    unfold cost
    simp only [PyData.shown]
    refine StrLaws.reprText_len x fun c hc => ?_
    simp only [okc, List.all_eq_true, decide_eq_true_eq] at h
    exact h c hc
  | .list xs, h => by
    unfold cost
    simp only [PyData.shown]
    simp only [okc] at h
    have h1 := shownAll_le xs h
    unfold listText
    rw [strLen_append]
    have h2 := textFrom_le (PyData.shownAll xs) 0 "["
    have e1 : (("[" : String) : Str).length = 1 := rfl
    have e2 : (("]" : String) : Str).length = 1 := rfl
    omega
  | .tuple xs, h => by
    unfold cost
    simp only [PyData.shown]
    simp only [okc] at h
    have h1 := shownAll_le xs h
    unfold tupleText
    rw [strLen_append, strLen_append]
    have h2 := join_le (PyData.shownAll xs)
    have e1 : (("(" : String) : Str).length = 1 := rfl
    have e2 : ((if (PyData.shownAll xs).length == 1 then ",)" else ")" : String) : Str).length ≤ 2 := by
      split <;> decide
    omega
  | .dict kvs, h => by
    unfold cost
    simp only [PyData.shown]
    simp only [okc] at h
    have h1 := shownKv_le kvs h
    unfold dictText
    rw [strLen_append, strLen_append]
    have h2 := join_le (PyData.shownKv kvs)
    have e1 : (("{" : String) : Str).length = 1 := rfl
    have e2 : (("}" : String) : Str).length = 1 := rfl
    omega
theorem shownAll_le : ∀ xs : List PyData, okcs xs = true → piled (PyData.shownAll xs) ≤ costs xs
  | [], _ => by simp [PyData.shownAll, costs, piled]
  | x :: xs, h => by
    simp only [okcs, Bool.and_eq_true] at h
    have h1 := shown_le x h.1
    have h2 := shownAll_le xs h.2
    simp only [PyData.shownAll, costs, piled_cons]
    omega
theorem shownKv_le : ∀ xs : List (PyData × PyData), okck xs = true → piled (PyData.shownKv xs) ≤ costk xs
  | [], _ => by simp [PyData.shownKv, costk, piled]
  | (k, v) :: xs, h => by
    simp only [okck, Bool.and_eq_true] at h
    have h1 := shown_le k h.1.1
    have h3 := shown_le v h.1.2
    have h2 := shownKv_le xs h.2
    simp only [PyData.shownKv, costk, piled_cons]
    rw [strLen_append, strLen_append]
    have e1 : ((": " : String) : Str).length = 2 := rfl
    omega
end
/-- what may be shown at once -/
def fit (n : Nat) (d : PyData) : Prop := d.showable = true ∧ okc d = true ∧ cost d ≤ n ∧ d.depth ≤ 64
theorem repr_fit {d : PyData} {n : Nat} (h : fit n d) (hn : n ≤ limR) : bltO .repr [d] = some (.val (.d (.str d.shown))) := by
  obtain ⟨h1, h2, h3, h4⟩ := h
  have := shown_le d h2
  show (if (d.showable && decide (d.shown.length ≤ limR) && decide (d.depth ≤ 64)) = true then _ else _) = _
  rw [h1, if_pos]
  simp only [Bool.true_and, Bool.and_eq_true, decide_eq_true_eq]
  exact ⟨by omega, h4⟩

/-! ### how calls run -/
theorem run_at {P : List Fn} {k f : Nat} {args : List Vl} {cs : Store} {fn : Fn} (hf : P[f]? = some fn) (hl : args.length = fn.np) : run P (k + 1) f args cs = (match execs (run P k) fn.body (startE fn args) cs with
      | .ok r S => (match r.1 with
        | .nx => leave cs.length (.val (.d .none)) S
        | .rt o => leave cs.length o S
        | _ => .stuck)
      | .exc c S => .exc c (S.take cs.length)
      | .stuck => .stuck) := by
  unfold run
  simp only [hf, if_pos hl]
  all_goals rfl
theorem bind_ok {α β : Type} {m : M α} {f : α → M β} {s s' : Store} {a : α} (h : m s = .ok a s') : M.bind m f s = f a s' := by
  unfold M.bind; rw [h]
/-- a loop, by what holds between the turns -/
theorem loopL_inv {bnd : PyData → Env → Option Env} {b : Env → M (Fl × Env)} (I : Nat → Env → Store → Prop) : ∀ (xs : List PyData) (i : Nat) (E : Env) (S : Store), I i E S →
    (∀ j E S x, i ≤ j → xs[j - i]? = some x → I j E S → ∃ E1 r S', bnd x E = some E1 ∧ b E1 S = .ok r S' ∧ (r.1 = .nx ∨ r.1 = .ct) ∧ I (j + 1) r.2 S') →
    ∃ E' S', loopL bnd b xs E S = .ok (.nx, E') S' ∧ I (i + xs.length) E' S'
  | [], i, E, S, h, _ => ⟨E, S, rfl, h⟩
  | x :: xs, i, E, S, h, st => by
    obtain ⟨E1, r, S1, e1, e2, e3, h1⟩ := st i E S x (Nat.le_refl _) (by simp) h
    obtain ⟨E', S', e4, h2⟩ := loopL_inv I xs (i + 1) r.2 S1 h1 fun j E S y hj hy hI => st j E S y (by omega) (by
      have : j - i = (j - (i + 1)) + 1 := by omega
      rw [this]; simpa using hy) hI
    refine ⟨E', S', ?_, by simpa [Nat.add_assoc, Nat.add_comm 1] using h2⟩
    unfold loopL
    rw [bind_ok (a := E1) (s' := S) (by rw [e1]; rfl), bind_ok e2]
    rcases e3 with e3 | e3 <;> (rw [e3]; exact e4)
/-- a comprehension without a test, by what holds between the turns -/
theorem comprL_inv {bnd : PyData → Option Env} {c : Env → M Bool} {e : Env → M PyData} (I : Nat → List PyData → Store → Prop) : ∀ (xs : List PyData) (i : Nat) (acc : List PyData) (S : Store), I i acc S → 
    (∀ j acc S x, i ≤ j → xs[j - i]? = some x → I j acc S → ∃ E1 k S1, bnd x = some E1 ∧ c E1 S = .ok k S1 ∧ (if k = true then ∃ y S', e E1 S1 = .ok y S' ∧ acc.length < lim ∧ I (j + 1) (acc ++ [y]) S' else I (j + 1) acc S1)) →
    ∃ ys S', comprL bnd c e xs acc S = .ok ys S' ∧ I (i + xs.length) ys S'
  | [], i, acc, S, h, _ => ⟨acc, S, rfl, h⟩
  | x :: xs, i, acc, S, h, st => by
    obtain ⟨E1, k, S1, e1, e2, h1⟩ := st i acc S x (Nat.le_refl _) (by simp) h
    have st' : ∀ j acc S y, i + 1 ≤ j → xs[j - (i + 1)]? = some y → I j acc S → ∃ E1 k S1, bnd y = some E1 ∧ c E1 S = .ok k S1 ∧ (if k = true then ∃ y S', e E1 S1 = .ok y S' ∧ acc.length < lim ∧ I (j + 1) (acc ++ [y]) S' else I (j + 1) acc S1) := fun j acc S y hj hy hI => st j acc S y (by omega) (by
      have : j - i = (j - (i + 1)) + 1 := by omega
      rw [this]; simpa using hy) hI
    unfold comprL
    rw [bind_ok (a := E1) (s' := S) (by rw [e1]; rfl), bind_ok e2]
    cases k with
    | true =>
      rw [if_pos rfl] at h1
      obtain ⟨y, S2, e3, hl, h2⟩ := h1
      obtain ⟨ys, S', e4, h3⟩ := comprL_inv I xs (i + 1) (acc ++ [y]) S2 h2 st'
      refine ⟨ys, S', ?_, by simpa [Nat.add_assoc, Nat.add_comm 1] using h3⟩
      rw [if_pos rfl, bind_ok e3, if_pos hl]
      exact e4
    | false =>
      rw [if_neg (by decide)] at h1
      obtain ⟨ys, S', e4, h3⟩ := comprL_inv I xs (i + 1) acc S1 h1 st'
      refine ⟨ys, S', ?_, by simpa [Nat.add_assoc, Nat.add_comm 1] using h3⟩
      rw [if_neg (by decide)]
      exact e4
/-- .. where all is pure -/
theorem comprL_pure {bnd : PyData → Option Env} {c : Env → M Bool} {e : Env → M PyData} {p : PyData → Bool} {g : PyData → PyData} {S : Store} : ∀ (xs acc : List PyData), acc.length + xs.length ≤ lim →
    (∀ x ∈ xs, ∃ E1, bnd x = some E1 ∧ c E1 S = .ok (p x) S ∧ (p x = true → e E1 S = .ok (g x) S)) → comprL bnd c e xs acc S = .ok (acc ++ (xs.filter p).map g) S
  | [], acc, _, _ => by unfold comprL; simp; rfl
  | x :: xs, acc, hl, h => by
    obtain ⟨E1, e1, e2, e3⟩ := h x List.mem_cons_self
    unfold comprL
    rw [bind_ok (a := E1) (s' := S) (by rw [e1]; rfl), bind_ok e2]
    simp only [List.length_cons] at hl
    cases q : p x with
    | true =>
      rw [if_pos rfl, bind_ok (e3 q), if_pos (by omega), comprL_pure xs (acc ++ [g x]) (by simp; omega) fun y hy => h y (List.mem_cons_of_mem _ hy)]
      rw [List.filter_cons_of_pos q]; simp
    | false =>
      rw [if_neg (by decide), comprL_pure xs acc (by omega) fun y hy => h y (List.mem_cons_of_mem _ hy)]
      rw [List.filter_cons_of_neg (by rw [q]; decide)]
end Lf
namespace Lf
open PySem PySem.Spec PyProof.Rows L2
section
variable {C : CallT}
theorem ev_comp {own : List Nat} {t : Tg} {it : Ir} {c e : Ex} {E : Env} {S S1 S2 : Store} {xs ys : List PyData} (h1 : evI C it E S = .ok xs S1) (hw : wipes own t = true)
    (h2 : comprL (fun x => bindT t x (wipeE E own)) (fun E => evT C c E) (fun E => datum (ev C e E)) xs [] S1 = .ok ys S2) : ev C (.comp own t it c e) E S = .ok (.lst ys) S2 := by
  unfold ev
  rw [bind_ok h1, if_pos hw]
  have : noExc (comprL (fun x => bindT t x (wipeE E own)) (fun E => evT C c E) (fun E => datum (ev C e E)) xs []) S1 = .ok ys S2 := by
    unfold noExc; rw [h2]
  rw [bind_ok this]
  rfl
theorem comp_pure {own : List Nat} {t : Tg} {it : Ir} {c e : Ex} {E : Env} {S S1 : Store} {xs : List PyData} (p : PyData → Bool) (g : PyData → PyData) (h1 : evI C it E S = .ok xs S1) (hw : wipes own t = true) (hl : xs.length ≤ lim)
    (h : ∀ x ∈ xs, ∃ E1, bindT t x (wipeE E own) = some E1 ∧ evT C c E1 S1 = .ok (p x) S1 ∧ (p x = true → ev C e E1 S1 = .ok (.val (.d (g x))) S1)) : ev C (.comp own t it c e) E S = .ok (.lst ((xs.filter p).map g)) S1 := by
  have q := comprL_pure (bnd := fun x => bindT t x (wipeE E own)) (c := fun E => evT C c E) (e := fun E => datum (ev C e E)) (p := p) (g := g) (S := S1) xs [] (by simpa using hl) fun x hx => by
    obtain ⟨E1, e1, e2, e3⟩ := h x hx
    refine ⟨E1, e1, e2, fun z => ?_⟩
    show datum (ev C e E1) S1 = _
    unfold datum
    rw [bind_ok (e3 z)]
    rfl
  rw [List.nil_append] at q
  exact ev_comp h1 hw q
theorem exec_loop {t : Tg} {it : Ir} {b : Sms} {E E' : Env} {S S1 S2 : Store} {xs : List PyData} {f : Fl} (h1 : evI C it E S = .ok xs S1) (h2 : loopL (fun x E => bindT t x E) (fun E => execs C b E) xs E S1 = .ok (f, E') S2) :
    exec C (.loop t it b) E S = .ok (f, E') S2 := by
  unfold exec
  rw [bind_ok h1]
  exact h2
end
end Lf

namespace Lf
open PySem PySem.Spec PyProof.Rows L2
theorem eqO_int (i j : Int) : eqO (.int i) (.int j) = some (decide (i = j)) := by
  have e : (i == j) = decide (i = j) := by rw [Bool.eq_iff_iff]; simp
  simp [eqO, apart, SeqAt.shaped, PyData.canLay0, PyData.depth, PyData.eqv, e]
theorem eqO_str (i j : Str) : eqO (.str i) (.str j) = some (decide (i = j)) := rfl
theorem eqO_b2 (a b c d : Bool) : eqO (.list [.bool a, .bool b]) (.list [.bool c, .bool d]) = some (decide (a = c ∧ b = d)) := by
  cases a <;> cases b <;> cases c <;> cases d <;> decide
end Lf

namespace Lf
open PySem PySem.Spec PyProof.Rows L2
def atomK : PyData → Bool
  | .none | .bool _ | .int _ => true
  | .str x => PyData.strOk x
  | _ => false
theorem atoms_lay : ∀ {l : List PyData}, l.all atomK = true → PyData.canLayAll0 l = true ∧ PyData.depthAll l = 0
  | [], _ => by simp [PyData.canLayAll0, PyData.depthAll]
  | x :: l, h => by
    rw [List.all_cons, Bool.and_eq_true] at h
    obtain ⟨h1, h2⟩ := atoms_lay h.2
    have h0 := h.1
    cases x <;> first | (simp [atomK] at h0; done) | (simp [atomK] at h0; simp [PyData.canLayAll0, PyData.depthAll, PyData.canLay0, PyData.depth, h1, h2, h0]; done) | simp [PyData.canLayAll0, PyData.depthAll, PyData.canLay0, PyData.depth, h1, h2]
theorem atoms_shaped {l : List PyData} (h : l.all atomK = true) : SeqAt.shaped (.list l) = true := by
  obtain ⟨h1, h2⟩ := atoms_lay h
  simp [SeqAt.shaped, PyData.canLay0, PyData.depth, h1, h2]
theorem eqO_nil (l : List PyData) : eqO (.list l) (.list []) = some l.isEmpty := by
  cases l with
  | nil => decide
  | cons a l => rfl
end Lf

namespace Lf
open PySem PySem.Spec PyProof.Rows L2
/-- a text of at most m signs -/
def Tx (m : Nat) (t : Str) : Prop := t.length ≤ m ∧ ∀ c ∈ t.cps.toList, c < 1114112
theorem Tx.mono {m n : Nat} {t : Str} (h : Tx m t) (l : m ≤ n) : Tx n t := ⟨Nat.le_trans h.1 l, h.2⟩
theorem tl_app (x y : Str) : (x ++ y).cps.toList = x.cps.toList ++ y.cps.toList := TL.tl_append x y
theorem Tx.app {m n : Nat} {x y : Str} (h1 : Tx m x) (h2 : Tx n y) : Tx (m + n) (x ++ y) := by
  refine ⟨by rw [strLen_append]; have := h1.1; have := h2.1; omega, fun c hc => ?_⟩
  rw [tl_app] at hc
  rcases List.mem_append.mp hc with h | h
  · exact h1.2 c h
  · exact h2.2 c h
theorem Tx.one {c : Nat} (h : c < 1114112) : Tx 1 ⟨#[c]⟩ := ⟨Nat.le_refl 1, fun d hd => by
  have : d = c := by simpa using hd
  rw [this]; exact h⟩
theorem Tx.cut {m : Nat} {x : Str} (h : Tx m x) (lo hi : Option Int) : Tx m ⟨(cutL x.cps.toList lo hi).toArray⟩ := by
  refine ⟨?_, fun c hc => ?_⟩
  · show (cutL x.cps.toList lo hi).toArray.size ≤ m
    rw [List.size_toArray]
    unfold cutL
    rw [List.length_take, List.length_drop]
    have := h.1
    have e : x.cps.toList.length = x.length := by simp [Str.length]
    omega
  · have hc : c ∈ cutL x.cps.toList lo hi := by simpa using hc
    unfold cutL at hc
    exact h.2 c (List.mem_of_mem_drop (List.mem_of_mem_take hc))
theorem Tx.ok {m : Nat} {x : Str} (h : Tx m x) : PyData.strOk x = true := by
  unfold PyData.strOk
  rw [← Array.all_toList, List.all_eq_true]
  intro c hc
  have := h.2 c hc
  simpa using this
theorem Tx.fit {m n : Nat} {x : Str} (h : Tx m x) (l : 10 * m + 2 ≤ n) : fit n (.str x) := by
  refine ⟨by simp [PyData.showable], ?_, ?_, by simp [PyData.depth]⟩
  · simp only [okc, List.all_eq_true, decide_eq_true_eq]
    intro c hc
    have := h.2 c hc
    omega
  · have := h.1
    simp only [cost]
    omega
def txB (m : Nat) (t : Str) : Bool := decide (t.length ≤ m) && t.cps.toList.all fun c => decide (c < 1114112)
theorem txB_tx {m : Nat} {t : Str} (h : txB m t = true) : Tx m t := by
  unfold txB at h
  simp only [Bool.and_eq_true, decide_eq_true_eq, List.all_eq_true] at h
  exact h
theorem at_mem {α : Type} {xs : List α} {v : Int} (h0 : 0 ≤ v) (h1 : v < xs.length) : ∃ z, L2.atI xs v = some z ∧ z ∈ xs := by
  unfold L2.atI L2.ixN
  rw [if_pos h0, if_pos h1]
  have hl : v.toNat < xs.length := by omega
  exact ⟨xs[v.toNat], by simp [hl], List.getElem_mem hl⟩
theorem rng_len {lo hi : Int} {xs : List PyData} (h : rngL lo hi = some xs) : xs.length = (hi - lo).toNat := by
  unfold rngL at h
  split at h
  · cases h; simp
  · cases h
theorem rng_at {lo hi : Int} {xs : List PyData} {j : Nat} {x : PyData} (h : rngL lo hi = some xs) (e : xs[j]? = some x) : x = .int (lo + j) := by
  unfold rngL at h
  split at h
  · cases h
    rw [List.getElem?_map] at e
    cases q : (List.range (hi - lo).toNat)[j]? with
    | none => rw [q] at e; cases e
    | some i =>
      rw [q] at e
      have := List.getElem?_eq_some_iff.mp q
      obtain ⟨h1, h2⟩ := this
      simp at h2
      subst h2
      exact (Option.some.inj e).symm
  · cases h
theorem rng_some {lo hi : Int} (h1 : -1000000000 ≤ lo) (h2 : lo ≤ 1000000000) (h3 : -1000000000 ≤ hi) (h4 : hi ≤ 1000000000) : ∃ xs, rngL lo hi = some xs := by
  unfold rngL
  rw [if_pos ⟨h1, h2, h3, h4⟩]
  exact ⟨_, rfl⟩
end Lf

set_option Elab.async false
set_option linter.all false
set_option maxRecDepth 100000
set_option maxHeartbeats 4000000
set_option exponentiation.threshold 4000
/-! Things of small texts, numbers, rows: how great they are. -/
namespace Lf
open PySem PySem.Spec PyProof.Rows L2

/-! ### a number's text -/
theorem abs_text (m : Nat) {k : Nat} (hk : 1 ≤ k) (h : m < 10 ^ k) : (Nat.toDigits 10 m).length ≤ k ∧ ∀ c ∈ (Nat.toDigits 10 m).map Char.toNat, c < 128 := by
  refine ⟨digits10_le hk h, fun c hc => ?_⟩
  obtain ⟨d, hd, rfl⟩ := List.mem_map.mp hc
  have := digit_range (Nat.isDigit_of_mem_toDigits (by decide) (by decide) hd)
  omega
theorem int_text (i : Int) {k : Nat} (hk : 1 ≤ k) (h : i.natAbs < 10 ^ k) : (Str.ofString (toString i)).length ≤ k + 1 ∧ ∀ c ∈ (Str.ofString (toString i)).cps.toList, c < 128 := by
  have len : ∀ x : Str, x.length = x.cps.toList.length := fun x => by simp [Str.length]
  rw [len]
  cases i with
  | ofNat m =>
    obtain ⟨h1, h2⟩ := abs_text m hk h
    have e : (Str.ofString (toString (Int.ofNat m))).cps.toList = (Nat.toDigits 10 m).map Char.toNat := PySem.W.KIN.signs_num m
    rw [e]
    exact ⟨by rw [List.length_map]; omega, h2⟩
  | negSucc m =>
    obtain ⟨h1, h2⟩ := abs_text (m + 1) hk h
    have e : (Str.ofString (toString (Int.negSucc m))).cps.toList = 45 :: (Nat.toDigits 10 (m + 1)).map Char.toNat := by
      rw [signs_ofString]
      show ("-" ++ Nat.repr (m + 1)).toList.map Char.toNat = _
      rw [String.toList_append, Nat.toList_repr]
      rfl
    rw [e]
    exact ⟨by simp only [List.length_cons, List.length_map]; omega, fun c hc => (List.mem_cons.mp hc).elim (fun e => by omega) (h2 c)⟩

/-! ### leaves -/
def asc : Str → Bool := fun x => x.cps.toList.all fun c => decide (c < 128)
def ascD : PyData → Bool
  | .str x => asc x
  | _ => false
mutual
def lg (L B : Nat) : PyData → Bool
  | .none | .bool _ => true
  | .int i => decide (i.natAbs ≤ B)
  | .str x => asc x
  | .list xs => decide (xs.length ≤ L) && lgs L B xs
  | .tuple xs => decide (xs.length ≤ L) && lgs L B xs
  | .dict kvs => kvs.all fun p => ascD p.1 && ascD p.2
def lgs (L B : Nat) : List PyData → Bool
  | [] => true
  | x :: xs => lg L B x && lgs L B xs
end
theorem lgs_all {L B : Nat} : ∀ {xs : List PyData}, lgs L B xs = xs.all (lg L B)
  | [] => by simp [lgs]
  | x :: xs => by simp [lgs, lgs_all (xs := xs)]
theorem asc_lt {x : Str} (h : asc x = true) : ∀ c ∈ x.cps.toList, c < 128 := fun c hc => of_decide_eq_true (List.all_eq_true.mp h c hc)
theorem asc_of {x : Str} (h : ∀ c ∈ x.cps.toList, c < 128) : asc x = true := List.all_eq_true.mpr fun c hc => decide_eq_true (h c hc)
theorem asc_app {x y : Str} (hx : asc x = true) (hy : asc y = true) : asc (x ++ y) = true := asc_of fun c hc => by
  rw [tl_app] at hc
  exact (List.mem_append.mp hc).elim (asc_lt hx c) (asc_lt hy c)
theorem asc_ok {x : Str} (h : asc x = true) : PyData.strOk x = true := by
  unfold PyData.strOk
  rw [← Array.all_toList, List.all_eq_true]
  intro c hc
  have := asc_lt h c hc
  simp; omega
theorem asc_cut {x : Str} (h : asc x = true) (lo hi : Option Int) : asc ⟨(cutL x.cps.toList lo hi).toArray⟩ = true := asc_of fun c hc => by
  have hc : c ∈ cutL x.cps.toList lo hi := by simpa using hc
  unfold cutL at hc
  exact asc_lt h c (List.mem_of_mem_drop (List.mem_of_mem_take hc))
theorem cut_len {α : Type} (xs : List α) (lo hi : Option Int) : (cutL xs lo hi).length ≤ xs.length := by
  unfold cutL; rw [List.length_take, List.length_drop]; omega
theorem str_len (x : Str) : x.cps.toList.length = x.length := by simp [Str.length]
theorem upper_asc {x : Str} (h : asc x = true) : asc (Txt.upper x) = true ∧ (Txt.upper x).length = x.length := by
  have e : Txt.upper x = SX.S (x.cps.toList.map up1) := by
    rw [← SX.S_tl x]
    exact SX.upper_S h
  rw [e]
  refine ⟨asc_of fun c hc => ?_, by rw [SX.S_len, List.length_map, str_len]⟩
  have hc : c ∈ x.cps.toList.map up1 := by simpa using hc
  obtain ⟨d, hd, rfl⟩ := List.mem_map.mp hc
  have := asc_lt h d hd
  unfold up1
  split <;> omega
theorem fold_mem (a : Array Nat) (c : Nat) : ∀ (k : Nat) (acc : Array Nat), c ∈ ((List.replicate k a).foldl (· ++ ·) acc).toList → c ∈ acc.toList ∨ c ∈ a.toList
  | 0, acc, h => .inl h
  | k + 1, acc, h => by
    rw [List.replicate_succ, List.foldl_cons] at h
    rcases fold_mem a c k _ h with h | h
    · rw [Array.toList_append, List.mem_append] at h
      exact h
    · exact .inr h
theorem mul_asc {x : Str} (h : asc x = true) (n : Nat) : asc (Txt.mul x n) = true ∧ (Txt.mul x n).length = x.length * n := by
  constructor
  · refine asc_of fun c hc => ?_
    unfold Txt.mul at hc
    split at hc
    · exact absurd hc (by simp [Str.empty])
    · split at hc
      · exact asc_lt h c hc
      · rcases fold_mem _ _ _ _ hc with z | z
        · simp at z
        · exact asc_lt h c z
  · have := PyProof.Rows.len_mul x (n : Int)
    rw [if_neg (by simp)] at this
    exact_mod_cast this
mutual
theorem lg_show {L B : Nat} (hB : B < 2 ^ 1900) : ∀ (d : PyData), lg L B d = true → d.showable = true ∧ okc d = true
  | .none, _ => by simp [PyData.showable, okc]
  | .bool _, _ => by simp [PyData.showable, okc]
  | .int i, h => by
    simp only [lg, decide_eq_true_eq] at h
    refine ⟨?_, by simp [okc]⟩
    simp only [PyData.showable, decide_eq_true_eq]
    by_cases z : i.natAbs = 0
    · rw [z]; decide
    · rw [Nat.log2_lt z]
      exact Nat.lt_of_le_of_lt h (Nat.lt_of_lt_of_le hB (Nat.pow_le_pow_right (by decide) (by decide)))
  | .str x, h => by
    refine ⟨by simp [PyData.showable], ?_⟩
    simp only [okc, List.all_eq_true, decide_eq_true_eq]
    intro c hc
    have := asc_lt h c hc
    omega
  | .list xs, h => by
    simp only [lg, Bool.and_eq_true] at h
    obtain ⟨h1, h2⟩ := lgs_show hB xs h.2
    exact ⟨by simpa [PyData.showable] using h1, by simpa [okc] using h2⟩
  | .tuple xs, h => by
    simp only [lg, Bool.and_eq_true] at h
    obtain ⟨h1, h2⟩ := lgs_show hB xs h.2
    exact ⟨by simpa [PyData.showable] using h1, by simpa [okc] using h2⟩
  | .dict kvs, h => by
    have h : kvs.all (fun p => ascD p.1 && ascD p.2) = true := by simpa [lg] using h
    have at_ : ∀ p ∈ kvs, (p.1.showable = true ∧ okc p.1 = true) ∧ p.2.showable = true ∧ okc p.2 = true := fun p hp => by
      have q := List.all_eq_true.mp h p hp
      rw [Bool.and_eq_true] at q
      have one : ∀ d, ascD d = true → d.showable = true ∧ okc d = true := fun d hd => by
        cases d <;> simp only [ascD] at hd <;> try (cases hd; done)
        refine ⟨by simp [PyData.showable], ?_⟩
        simp only [okc, List.all_eq_true, decide_eq_true_eq]
        intro c hc
        have := asc_lt hd c hc
        omega
      exact ⟨one _ q.1, one _ q.2⟩
    have gen : ∀ kvs : List (PyData × PyData), (∀ p ∈ kvs, (p.1.showable = true ∧ okc p.1 = true) ∧ p.2.showable = true ∧ okc p.2 = true) → PyData.showableKv kvs = true ∧ okck kvs = true := by
      intro kvs
      induction kvs with
      | nil => intro _; simp [PyData.showableKv, okck]
      | cons p r ih =>
        intro at_
        obtain ⟨k, v⟩ := p
        obtain ⟨i1, i2⟩ := ih fun p hp => at_ p (List.mem_cons_of_mem _ hp)
        obtain ⟨⟨a, b⟩, c, d⟩ := at_ _ List.mem_cons_self
        simp [PyData.showableKv, okck, i1, i2, a, b, c, d]
    have := gen kvs at_
    exact ⟨by simpa [PyData.showable] using this.1, by simpa [okc] using this.2⟩
theorem lgs_show {L B : Nat} (hB : B < 2 ^ 1900) : ∀ (xs : List PyData), lgs L B xs = true → PyData.showableAll xs = true ∧ okcs xs = true
  | [], _ => by simp [PyData.showableAll, okcs]
  | x :: xs, h => by
    simp only [lgs, Bool.and_eq_true] at h
    obtain ⟨a, b⟩ := lg_show hB x h.1
    obtain ⟨c, d⟩ := lgs_show hB xs h.2
    simp [PyData.showableAll, okcs, a, b, c, d]
end
mutual
theorem lg_mono {L B L' B' : Nat} (hL : L ≤ L') (hB : B ≤ B') : ∀ (d : PyData), lg L B d = true → lg L' B' d = true
  | .none, _ => by simp [lg]
  | .bool _, _ => by simp [lg]
  | .int i, h => by simp only [lg, decide_eq_true_eq] at h ⊢; omega
  | .str x, h => by simpa [lg] using h
  | .list xs, h => by
    simp only [lg, Bool.and_eq_true, decide_eq_true_eq] at h ⊢
    exact ⟨by omega, lgs_mono hL hB xs h.2⟩
  | .tuple xs, h => by
    simp only [lg, Bool.and_eq_true, decide_eq_true_eq] at h ⊢
    exact ⟨by omega, lgs_mono hL hB xs h.2⟩
  | .dict kvs, h => by simpa [lg] using h
theorem lgs_mono {L B L' B' : Nat} (hL : L ≤ L') (hB : B ≤ B') : ∀ (xs : List PyData), lgs L B xs = true → lgs L' B' xs = true
  | [], _ => by simp [lgs]
  | x :: xs, h => by
    simp only [lgs, Bool.and_eq_true] at h ⊢
    exact ⟨lg_mono hL hB x h.1, lgs_mono hL hB xs h.2⟩
end

/-! ### rows -/
theorem costs_app : ∀ (xs ys : List PyData), costs (xs ++ ys) = costs xs + costs ys
  | [], ys => by simp [costs]
  | x :: xs, ys => by simp only [List.cons_append, costs, costs_app xs ys]; omega
theorem costs_rev (xs : List PyData) : costs xs.reverse = costs xs := by
  induction xs with
  | nil => rfl
  | cons x xs ih => rw [List.reverse_cons, costs_app, ih]; simp only [costs]; omega
theorem costs_mem {x : PyData} : ∀ {xs : List PyData}, x ∈ xs → cost x + 2 ≤ costs xs
  | y :: ys, h => by
    simp only [costs]
    rcases List.mem_cons.mp h with e | h
    · subst e; omega
    · have := costs_mem h; omega
theorem costs_sub : ∀ {xs ys : List PyData}, xs.Sublist ys → costs xs ≤ costs ys
  | _, _, .slnil => Nat.le_refl _
  | _, _, .cons _ h => by simp only [costs]; have := costs_sub h; omega
  | _, _, .cons₂ _ h => by simp only [costs]; have := costs_sub h; omega
theorem depthAll_le {n : Nat} : ∀ {xs : List PyData}, (∀ x ∈ xs, x.depth ≤ n) ↔ PyData.depthAll xs ≤ n
  | [] => by simp [PyData.depthAll]
  | x :: xs => by
    simp only [PyData.depthAll, List.forall_mem_cons, depthAll_le (xs := xs)]
    omega
/-- how great a thing is: rows of L, numbers up to B, cost N, depth D -/
structure Gt (L B N D : Nat) (d : PyData) : Prop where
  lg : lg L B d = true
  cost : cost d ≤ N
  dep : d.depth ≤ D
theorem Gt.mono {L B N D L' B' N' D' : Nat} {d : PyData} (h : Gt L B N D d) (hL : L ≤ L') (hB : B ≤ B') (hN : N ≤ N') (hD : D ≤ D') : Gt L' B' N' D' d :=
  ⟨lg_mono hL hB d h.lg, Nat.le_trans h.cost hN, Nat.le_trans h.dep hD⟩
/-- .. of a row's items, the costs together -/
structure Gs (L B N D : Nat) (xs : List PyData) : Prop where
  len : xs.length ≤ L
  lg : lgs L B xs = true
  cost : costs xs ≤ N
  dep : ∀ x ∈ xs, x.depth ≤ D
theorem Gt.list {L B N D : Nat} {xs : List PyData} : Gt L B (N + 2) (D + 1) (.list xs) ↔ Gs L B N D xs := by
  constructor
  · intro ⟨h1, h2, h3⟩
    simp only [Lf.lg, Bool.and_eq_true, decide_eq_true_eq, Lf.cost, PyData.depth] at h1 h2 h3
    exact ⟨h1.1, h1.2, by omega, depthAll_le.mpr (by omega)⟩
  · intro ⟨h1, h2, h3, h4⟩
    have := depthAll_le.mp h4
    refine ⟨by simp only [Lf.lg, h2, h1, decide_true, Bool.and_self], ?_, ?_⟩
    · simp only [Lf.cost]; omega
    · simp only [PyData.depth]; omega
theorem Gt.tuple {L B N D : Nat} {xs : List PyData} : Gt L B (N + 3) (D + 1) (.tuple xs) ↔ Gs L B N D xs := by
  constructor
  · intro ⟨h1, h2, h3⟩
    simp only [Lf.lg, Bool.and_eq_true, decide_eq_true_eq, Lf.cost, PyData.depth] at h1 h2 h3
    exact ⟨h1.1, h1.2, by omega, depthAll_le.mpr (by omega)⟩
  · intro ⟨h1, h2, h3, h4⟩
    have := depthAll_le.mp h4
    refine ⟨by simp only [Lf.lg, h2, h1, decide_true, Bool.and_self], ?_, ?_⟩
    · simp only [Lf.cost]; omega
    · simp only [PyData.depth]; omega
theorem Gs.mono {L B N D L' B' N' D' : Nat} {xs : List PyData} (h : Gs L B N D xs) (hL : L ≤ L') (hB : B ≤ B') (hN : N ≤ N') (hD : D ≤ D') : Gs L' B' N' D' xs :=
  ⟨Nat.le_trans h.len hL, lgs_mono hL hB xs h.lg, Nat.le_trans h.cost hN, fun x hx => Nat.le_trans (h.dep x hx) hD⟩
theorem Gs.sub {L B N D : Nat} {xs ys : List PyData} (h : Gs L B N D ys) (s : xs.Sublist ys) : Gs L B N D xs :=
  ⟨Nat.le_trans s.length_le h.len, by
    rw [lgs_all, List.all_eq_true]
    intro x hx
    have := h.lg
    rw [lgs_all, List.all_eq_true] at this
    exact this x (s.subset hx), Nat.le_trans (costs_sub s) h.cost, fun x hx => h.dep x (s.subset hx)⟩
theorem Gs.mem {L B N D : Nat} {xs : List PyData} {x : PyData} (h : Gs L B N D xs) (hx : x ∈ xs) : Gt L B N D x :=
  ⟨by
    have := h.lg
    rw [lgs_all, List.all_eq_true] at this
    exact this x hx, by have := costs_mem hx; have := h.cost; omega, h.dep x hx⟩
theorem Gs.rev {L B N D : Nat} {xs : List PyData} (h : Gs L B N D xs) : Gs L B N D xs.reverse :=
  ⟨by rw [List.length_reverse]; exact h.len, by
    have := h.lg
    rw [lgs_all] at this ⊢
    rw [List.all_reverse]; exact this, by rw [costs_rev]; exact h.cost, fun x hx => h.dep x (List.mem_reverse.mp hx)⟩
theorem Gs.cut {L B N D : Nat} {xs : List PyData} (h : Gs L B N D xs) (lo hi : Option Int) : Gs L B N D (cutL xs lo hi) :=
  h.sub ((List.take_sublist _ _).trans (List.drop_sublist _ _))
theorem Gs.app {L B N D M N' : Nat} {xs ys : List PyData} (h : Gs L B N D xs) (g : Gs M B N' D ys) (l : xs.length + ys.length ≤ L) (hM : M ≤ L) : Gs L B (N + N') D (xs ++ ys) :=
  ⟨by rw [List.length_append]; exact l, by
    have h1 := h.lg
    have h2 := (g.mono hM (Nat.le_refl _) (Nat.le_refl _) (Nat.le_refl _)).lg
    rw [lgs_all] at h1 h2 ⊢
    rw [List.all_append, h1, h2]; rfl, by rw [costs_app]; have := h.cost; have := g.cost; omega, fun x hx => (List.mem_append.mp hx).elim (h.dep x) (g.dep x)⟩
theorem Gs.one {L B N D : Nat} {x : PyData} (h : Gt L B N D x) (hL : 1 ≤ L) : Gs L B (N + 2) D [x] :=
  ⟨hL, by simp only [lgs, h.lg, Bool.and_self], by simp only [costs]; have := h.cost; omega, fun y hy => by rw [List.mem_singleton.mp hy]; exact h.dep⟩
theorem Gs.nil {L B N D : Nat} : Gs L B N D [] := ⟨Nat.zero_le _, rfl, Nat.zero_le _, fun x h => nomatch h⟩
theorem Gt.fit {L B N D : Nat} {d : PyData} (h : Gt L B N D d) (hB : B < 2 ^ 1900) (hD : D ≤ 64) : fit N d := by
  obtain ⟨h1, h2⟩ := lg_show hB d h.lg
  exact ⟨h1, h2, h.cost, Nat.le_trans h.dep hD⟩
theorem Gt.str {L B N D : Nat} {x : Str} (h : asc x = true) (l : 10 * x.length + 2 ≤ N) : Gt L B N D (.str x) := ⟨by simpa [Lf.lg] using h, by simpa [Lf.cost] using l, by simp [PyData.depth]⟩
theorem Gt.int {L B N D : Nat} {i : Int} (h : i.natAbs ≤ B) (hB : B < 10 ^ 60) (l : 61 ≤ N) : Gt L B N D (.int i) :=
  ⟨by simpa [Lf.lg] using h, by simp only [Lf.cost]; have := (int_text i (k := 60) (by decide) (by omega)).1; omega, by simp [PyData.depth]⟩
theorem Gt.bool {L B N D : Nat} {b : Bool} (l : 5 ≤ N) : Gt L B N D (.bool b) := ⟨by simp [Lf.lg], by simpa [Lf.cost] using l, by simp [PyData.depth]⟩
theorem Gt.none {L B N D : Nat} (l : 4 ≤ N) : Gt L B N D .none := ⟨by simp [Lf.lg], by simpa [Lf.cost] using l, by simp [PyData.depth]⟩
end Lf

set_option Elab.async false
set_option linter.all false
set_option maxRecDepth 100000
namespace Lf
open PySem PySem.Spec PyProof.Rows L2
def f_is_count : Fn := ⟨2, 2, (.cons (.ret (.and (.isa (.var 0) [.int]) (.and (.not (.isa (.var 0) [.bool])) (.cmp .ge (.var 0) (.var 1))))) .nil)⟩
def c0_is_name : Ex := .comp [1] (.nm 1) (.x (.var 0)) (.cst (.bool true)) (.cmp .inn (.var 1) (.glb "LETTERS" (.str "abcdefghijklmnopqrstuvwxyz")))
def f_is_name : Fn := ⟨1, 2, (.cons (.ite (.or (.not (.isa (.var 0) [.str])) (.not (.chn .le .le (.cst (.int 1)) (.len (.var 0)) (.glb "MOST_LETTERS" (.int 8))))) (.cons (.ret (.cst (.bool false))) .nil) .nil) (.cons (.ret (.blt .all (.cons c0_is_name .nil))) .nil))⟩
def f_is_tuple_of : Fn := ⟨2, 2, (.cons (.ret (.and (.isa (.var 0) [.tuple]) (.cmp .eq (.len (.var 0)) (.var 1)))) .nil)⟩
def c0_is_place : Ex := .comp [1] (.nm 1) (.x (.var 0)) (.cst (.bool true)) (.call 1 (.cons (.var 1) .nil))
def f_is_place : Fn := ⟨1, 2, (.cons (.ret (.and (.call 2 (.cons (.var 0) (.cons (.cst (.int 2)) .nil))) (.blt .all (.cons c0_is_place .nil)))) .nil)⟩
def c0_are_places : Ex := .comp [1] (.nm 1) (.x (.var 0)) (.cst (.bool true)) (.call 3 (.cons (.var 1) .nil))
def f_are_places : Fn := ⟨1, 2, (.cons (.ite (.or (.not (.isa (.var 0) [.list])) (.not (.blt .all (.cons c0_are_places .nil)))) (.cons (.ret (.cst (.bool false))) .nil) .nil) (.cons (.ret (.cmp .eq (.lens (.var 0)) (.len (.var 0)))) .nil))⟩
def f_are_premises : Fn := ⟨1, 1, (.cons (.ret (.and (.call 4 (.cons (.var 0) .nil)) (.chn .le .le (.cst (.int 1)) (.len (.var 0)) (.glb "MOST_PREMISES" (.int 8))))) .nil)⟩
def f_is_rule : Fn := ⟨1, 5, (.cons (.ite (.not (.call 2 (.cons (.var 0) (.cons (.cst (.int 4)) .nil)))) (.cons (.ret (.cst (.bool false))) .nil) .nil) (.cons (.asg (.tp (.cons (.nm 1) (.cons (.nm 2) (.cons (.nm 3) (.cons (.nm 4) .nil))))) (.var 0)) (.cons (.ret (.and (.call 1 (.cons (.var 1) .nil)) (.and (.call 1 (.cons (.var 2) .nil)) (.and (.call 0 (.cons (.var 3) (.cons (.cst (.int 1)) .nil))) (.call 5 (.cons (.var 4) .nil)))))) .nil)))⟩
def f_is_road : Fn := ⟨1, 1, (.cons (.ret (.and (.call 3 (.cons (.var 0) .nil)) (.cmp .lt (.idx (.var 0) (.cst (.int 0))) (.idx (.var 0) (.cst (.int 1)))))) .nil)⟩
def c0_is_world : Ex := .comp [5] (.nm 5) (.x (.var 3)) (.cst (.bool true)) (.call 7 (.cons (.var 5) .nil))
def c1_is_world : Ex := .comp [4] (.nm 4) (.x (.var 2)) (.cst (.bool true)) (.call 6 (.cons (.var 4) .nil))
def f_is_world : Fn := ⟨1, 6, (.cons (.ite (.not (.call 2 (.cons (.var 0) (.cons (.cst (.int 3)) .nil)))) (.cons (.ret (.cst (.bool false))) .nil) .nil) (.cons (.asg (.tp (.cons (.nm 1) (.cons (.nm 2) (.cons (.nm 3) .nil)))) (.var 0)) (.cons (.ite (.or (.not (.call 4 (.cons (.var 1) .nil))) (.or (.not (.isa (.var 2) [.list])) (.not (.isa (.var 3) [.list])))) (.cons (.ret (.cst (.bool false))) .nil) .nil) (.cons (.ite (.or (.not (.blt .all (.cons c1_is_world .nil))) (.not (.blt .all (.cons c0_is_world .nil)))) (.cons (.ret (.cst (.bool false))) .nil) .nil) (.cons (.ret (.cmp .eq (.lens (.var 3)) (.len (.var 3)))) .nil)))))⟩
def f_need_world : Fn := ⟨1, 1, (.cons (.ite (.not (.call 8 (.cons (.var 0) .nil))) (.cons (.raise 0 "") .nil) .nil) .nil)⟩
def f_is_near : Fn := ⟨3, 3, (.cons (.ret (.or (.cmp .eq (.var 1) (.var 2)) (.cmp .inn (.tup (.cons (.blt .min2 (.cons (.var 1) (.cons (.var 2) .nil))) (.cons (.blt .max2 (.cons (.var 1) (.cons (.var 2) .nil))) .nil))) (.var 0)))) .nil)⟩
def c0_living : Ex := .comp [10, 11] (.tp (.cons (.nm 10) (.cons (.nm 11) .nil))) (.x (.var 9)) (.cst (.bool true)) (.call 10 (.cons (.var 3) (.cons (.var 6) (.cons (.var 10) .nil))))
def b1_living : Sms := (.cons (.ite (.blt .all (.cons c0_living .nil)) (.cons (.expr (.mth .append (.var 4) (.cons (.tup (.cons (.var 5) (.cons (.tup (.cons (.var 6) (.cons (.var 7) .nil))) (.cons (.var 8) (.cons (.var 9) .nil))))) .nil))) .nil) .nil) .nil)
def l2_living : Sm := .loop (.tp (.cons (.nm 5) (.cons (.tp (.cons (.nm 6) (.cons (.nm 7) (.cons (.nm 8) (.cons (.nm 9) .nil))))) .nil))) (.enum (.var 2)) b1_living
def f_living : Fn := ⟨1, 12, (.cons (.asg (.tp (.cons (.nm 1) (.cons (.nm 2) (.cons (.nm 3) .nil)))) (.var 0)) (.cons (.asg (.nm 4) (.mut (.dis .nil))) (.cons l2_living (.cons (.ret (.var 4)) .nil))))⟩
def c0_height_by : Ex := .comp [7] (.nm 7) (.x (.var 5)) (.cst (.bool true)) (.dgt (.var 0) (.var 7))
def f_height_by : Fn := ⟨2, 8, (.cons (.asg (.tp (.cons (.nm 2) (.cons (.nm 3) (.cons (.nm 4) (.cons (.nm 5) .nil))))) (.var 1)) (.cons (.asg (.nm 6) c0_height_by) (.cons (.ret (.ite (.cmp .inn (.cst .none) (.var 6)) (.cst .none) (.bin .add (.var 4) (.blt .maxl (.cons (.var 6) .nil))))) .nil)))⟩
def c0_least_of : Ex := .dcomp [3] (.nm 3) (.x (.var 0)) (.cst (.bool true)) (.var 3) (.cst (.int 0))
def b1_least_of : Sms := (.cons (.asg (.nm 6) (.call 12 (.cons (.var 2) (.cons (.var 5) .nil)))) (.cons (.ite (.and (.cmp .nisn (.var 6) (.cst .none)) (.or (.cmp .nin (.idx (.var 5) (.cst (.int 1))) (.var 2)) (.cmp .lt (.var 6) (.idx (.var 2) (.idx (.var 5) (.cst (.int 1))))))) (.cons (.setI (.var 2) (.idx (.var 5) (.cst (.int 1))) (.var 6)) (.cons (.asg (.nm 4) (.cst (.bool true))) .nil)) .nil) .nil))
def l2_least_of : Sm := .loop (.nm 5) (.x (.var 1)) b1_least_of
def l3_least_of : Sm := .whl (.var 4) (.cons (.asg (.nm 4) (.cst (.bool false))) (.cons l2_least_of .nil))
def f_least_of : Fn := ⟨2, 7, (.cons (.asg (.nm 2) (.mut c0_least_of)) (.cons (.asg (.nm 4) (.cst (.bool true))) (.cons l3_least_of (.cons (.ret (.var 2)) .nil))))⟩
def f_least : Fn := ⟨1, 1, (.cons (.expr (.call 9 (.cons (.var 0) .nil))) (.cons (.ret (.call 13 (.cons (.idx (.var 0) (.cst (.int 0))) (.cons (.call 11 (.cons (.var 0) .nil)) .nil)))) .nil))⟩
def c0_more_of : Ex := .comp [3] (.nm 3) (.keys 0) (.cmp .nin (.var 3) (.var 1)) (.var 3)
def c1_more_of : Ex := .comp [3, 5] (.tp (.cons (.nm 3) (.cons (.nm 5) .nil))) (.items 0) (.and (.cmp .inn (.var 3) (.var 1)) (.cmp .lt (.var 5) (.idx (.var 1) (.var 3)))) (.var 3)
def f_more_of : Fn := ⟨2, 6, (.cons (.asg (.nm 2) (.blt .sortedR (.cons c0_more_of .nil))) (.cons (.asg (.nm 4) (.blt .sortedR (.cons c1_more_of .nil))) (.cons (.ret (.tup (.cons (.var 2) (.cons (.var 4) .nil)))) .nil)))⟩
def c0_falls : Ex := .comp [2] (.nm 2) (.x (.var 1)) (.cst (.bool true)) (.cmp .inn (.var 2) (.idx (.var 0) (.cst (.int 0))))
def c1_falls : Ex := .comp [2] (.nm 2) (.x (.idx (.var 0) (.cst (.int 0)))) (.cmp .nin (.var 2) (.var 1)) (.var 2)
def f_falls : Fn := ⟨2, 5, (.cons (.expr (.call 9 (.cons (.var 0) .nil))) (.cons (.ite (.or (.not (.call 4 (.cons (.var 1) .nil))) (.not (.blt .all (.cons c0_falls .nil)))) (.cons (.raise 0 "") .nil) .nil) (.cons (.asg (.nm 3) (.call 11 (.cons (.var 0) .nil))) (.cons (.asg (.nm 4) c1_falls) (.cons (.ret (.call 15 (.cons (.call 13 (.cons (.idx (.var 0) (.cst (.int 0))) (.cons (.var 3) .nil))) (.cons (.call 13 (.cons (.var 4) (.cons (.var 3) .nil))) .nil)))) .nil)))))⟩
def c0_gains : Ex := .comp [2] (.nm 2) (.x (.var 1)) (.cmp .inn (.var 2) (.idx (.var 0) (.cst (.int 0)))) (.var 2)
def f_gains : Fn := ⟨2, 4, (.cons (.expr (.call 9 (.cons (.var 0) .nil))) (.cons (.ite (.not (.call 4 (.cons (.var 1) .nil))) (.cons (.raise 0 "") .nil) .nil) (.cons (.ite (.cmp .ne c0_gains (.dis .nil)) (.cons (.raise 0 "") .nil) .nil) (.cons (.asg (.nm 3) (.call 11 (.cons (.var 0) .nil))) (.cons (.ret (.call 15 (.cons (.call 13 (.cons (.bin .add (.idx (.var 0) (.cst (.int 0))) (.var 1)) (.cons (.var 3) .nil))) (.cons (.call 13 (.cons (.idx (.var 0) (.cst (.int 0))) (.cons (.var 3) .nil))) .nil)))) .nil)))))⟩
def f__law_pot : Fn := ⟨2, 3, (.cons (.asg (.nm 2) (.cst (.int 0))) (.cons (.ite (.cmp .lt (.var 1) (.len (.var 0))) (.cons (.asg (.nm 2) (.idx (.var 0) (.var 1))) .nil) .nil) (.cons (.ret (.dis (.cons (.blt .max2 (.cons (.cst (.int 0)) (.cons (.bin .sub (.var 2) (.bin .pow (.cst (.int 10)) (.cst (.int 18)))) .nil))) (.cons (.bin .add (.bin .mod (.var 2) (.cst (.int 618970019642690137449562111))) (.bin .mul (.cst (.int 7368787)) (.var 1))) (.cons (.cst (.int 0)) .nil))))) .nil)))⟩
def f__law_take : Fn := ⟨2, 4, (.cons (.ite (.cmp .gt (.idx (.var 0) (.cst (.int 0))) (.cst (.int 0))) (.cons (.asg (.nm 2) (.bin .mod (.idx (.var 0) (.cst (.int 0))) (.var 1))) (.cons (.setI (.var 0) (.cst (.int 0)) (.bin .fdiv (.idx (.var 0) (.cst (.int 0))) (.var 1))) (.cons (.ret (.var 2)) .nil))) .nil) (.cons (.setI (.var 0) (.cst (.int 2)) (.bin .add (.idx (.var 0) (.cst (.int 2))) (.cst (.int 1)))) (.cons (.asg (.nm 3) (.bin .mod (.bin .pow (.bin .add (.idx (.var 0) (.cst (.int 1))) (.bin .mul (.cst (.int 15485863)) (.idx (.var 0) (.cst (.int 2))))) (.cst (.int 3))) (.cst (.int 162259276829213363391578010288127)))) (.cons (.asg (.nm 3) (.bin .mod (.bin .pow (.bin .add (.var 3) (.bin .mul (.cst (.int 32452843)) (.idx (.var 0) (.cst (.int 2))))) (.cst (.int 5))) (.cst (.int 170141183460469231731687303715884105727)))) (.cons (.ret (.bin .mod (.bin .fdiv (.var 3) (.cst (.int 1048576))) (.var 1))) .nil)))))⟩
def c0__law_names : Ex := .comp [3] (.nm 3) (.rng (.var 1)) (.cst (.bool true)) (.mth .popat (.var 2) (.cons (.call 19 (.cons (.var 0) (.cons (.len (.var 2)) .nil))) .nil))
def f__law_names : Fn := ⟨2, 4, (.cons (.asg (.nm 2) (.mut (.dis (.cons (.cst (.str "an")) (.cons (.cst (.str "ann")) (.cons (.cst (.str "b")) (.cons (.cst (.str "bo")) (.cons (.cst (.str "c")) (.cons (.cst (.str "cy")) (.cons (.cst (.str "dee")) (.cons (.cst (.str "emmaemma")) (.cons (.cst (.str "rain")) (.cons (.cst (.str "wet")) (.cons (.cst (.str "z")) (.cons (.cst (.str "zzzzzzzz")) .nil))))))))))))))) (.cons (.ret c0__law_names) .nil))⟩
def c0__law_places : Ex := .comp [4] (.nm 4) (.x (.var 1)) (.cst (.bool true)) (.tup (.cons (.var 3) (.cons (.var 4) .nil)))
def b1__law_places : Sms := (.cons (.expr (.mth .extend (.var 2) (.cons c0__law_places .nil))) .nil)
def l2__law_places : Sm := .loop (.nm 3) (.x (.call 20 (.cons (.var 0) (.cons (.bin .add (.cst (.int 1)) (.call 19 (.cons (.var 0) (.cons (.cst (.int 4)) .nil)))) .nil)))) b1__law_places
def f__law_places : Fn := ⟨1, 5, (.cons (.asg (.nm 1) (.call 20 (.cons (.var 0) (.cons (.bin .add (.cst (.int 1)) (.call 19 (.cons (.var 0) (.cons (.cst (.int 4)) .nil)))) .nil)))) (.cons (.asg (.nm 2) (.mut (.dis .nil))) (.cons l2__law_places (.cons (.ret (.var 2)) .nil))))⟩
def c0__law_some : Ex := .comp [4] (.nm 4) (.rng (.blt .min2 (.cons (.var 2) (.cons (.len (.var 3)) .nil)))) (.cst (.bool true)) (.mth .popat (.var 3) (.cons (.call 19 (.cons (.var 0) (.cons (.len (.var 3)) .nil))) .nil))
def f__law_some : Fn := ⟨3, 5, (.cons (.asg (.nm 3) (.mut (.blt .list (.cons (.var 1) .nil)))) (.cons (.ret c0__law_some) .nil))⟩
def f__law_cost : Fn := ⟨1, 1, (.cons (.ret (.idx (.dis (.cons (.cst (.int 1)) (.cons (.cst (.int 1)) (.cons (.bin .add (.cst (.int 1)) (.call 19 (.cons (.var 0) (.cons (.cst (.int 4)) .nil)))) (.cons (.bin .add (.cst (.int 1)) (.call 19 (.cons (.var 0) (.cons (.bin .pow (.cst (.int 10)) (.cst (.int 7))) .nil)))) .nil))))) (.call 19 (.cons (.var 0) (.cons (.cst (.int 4)) .nil))))) .nil)⟩
def c0__law_round : Ex := .comp [3] (.nm 3) (.rng (.len (.var 2))) (.cst (.bool true)) (.bin .add (.idx (.var 2) (.var 3)) (.tup (.cons (.call 23 (.cons (.var 0) .nil)) (.cons (.dis (.cons (.idx (.var 2) (.bin .sub (.var 3) (.cst (.int 1)))) .nil)) .nil))))
def f__law_round : Fn := ⟨2, 4, (.cons (.asg (.nm 2) (.call 22 (.cons (.var 0) (.cons (.var 1) (.cons (.bin .add (.cst (.int 1)) (.call 19 (.cons (.var 0) (.cons (.cst (.int 6)) .nil)))) .nil))))) (.cons (.ret c0__law_round) .nil))⟩
def c0__law_roads : Ex := .comp [3, 4] (.tp (.cons (.nm 3) (.cons (.nm 4) .nil))) (.x (.var 1)) (.cst (.bool true)) (.var 3)
def c1__law_roads : Ex := .comp [8] (.nm 8) (.x (.sl (.var 2) (.bin .add (.var 7) (.cst (.int 1))) (.cst .none))) (.cmp .lt (.call 19 (.cons (.var 0) (.cons (.cst (.int 4)) .nil))) (.var 5)) (.tup (.cons (.var 3) (.cons (.var 8) .nil)))
def b2__law_roads : Sms := (.cons (.expr (.mth .extend (.var 6) (.cons c1__law_roads .nil))) .nil)
def l3__law_roads : Sm := .loop (.tp (.cons (.nm 7) (.cons (.nm 3) .nil))) (.enum (.var 2)) b2__law_roads
def f__law_roads : Fn := ⟨2, 9, (.cons (.asg (.nm 2) (.sset c0__law_roads)) (.cons (.asg (.nm 5) (.idx (.dis (.cons (.cst (.int 4)) (.cons (.cst (.int 4)) (.cons (.cst (.int 3)) (.cons (.cst (.int 1)) (.cons (.cst (.int 0)) .nil)))))) (.call 19 (.cons (.var 0) (.cons (.cst (.int 5)) .nil))))) (.cons (.asg (.nm 6) (.mut (.dis .nil))) (.cons l3__law_roads (.cons (.ret (.ite (.cmp .eq (.call 19 (.cons (.var 0) (.cons (.cst (.int 2)) .nil))) (.cst (.int 0))) (.rev (.var 6)) (.var 6))) .nil)))))⟩
def b0__law_few : Sms := (.cons (.asg (.tp (.cons (.nm 5) (.cons (.nm 6) .nil))) (.idx (.var 1) (.call 19 (.cons (.var 0) (.cons (.len (.var 1)) .nil))))) (.cons (.asg (.nm 7) (.call 22 (.cons (.var 0) (.cons (.var 1) (.cons (.idx (.dis (.cons (.cst (.int 1)) (.cons (.cst (.int 1)) (.cons (.cst (.int 2)) (.cons (.cst (.int 2)) (.cons (.cst (.int 3)) (.cons (.cst (.int 8)) .nil))))))) (.call 19 (.cons (.var 0) (.cons (.cst (.int 6)) .nil)))) .nil))))) (.cons (.expr (.mth .append (.var 3) (.cons (.tup (.cons (.var 5) (.cons (.var 6) (.cons (.idx (.dis (.cons (.cst (.int 1)) (.cons (.bin .add (.cst (.int 1)) (.call 19 (.cons (.var 0) (.cons (.cst (.int 3)) .nil)))) .nil))) (.call 19 (.cons (.var 0) (.cons (.cst (.int 2)) .nil)))) (.cons (.var 7) .nil))))) .nil))) .nil)))
def l1__law_few : Sm := .loop (.nm 4) (.rng (.call 19 (.cons (.var 0) (.cons (.cst (.int 15)) .nil)))) b0__law_few
def f__law_few : Fn := ⟨3, 9, (.cons (.asg (.nm 3) (.mut (.dis .nil))) (.cons l1__law_few (.cons (.asg (.nm 3) (.mut (.bin .add (.var 3) (.bin .mul (.call 24 (.cons (.var 0) (.cons (.var 1) .nil))) (.call 19 (.cons (.var 0) (.cons (.cst (.int 2)) .nil))))))) (.cons (.asg (.nm 8) (.call 22 (.cons (.var 0) (.cons (.var 1) (.cons (.idx (.dis (.cons (.call 19 (.cons (.var 0) (.cons (.bin .add (.var 2) (.cst (.int 1))) .nil))) (.cons (.var 2) .nil))) (.call 19 (.cons (.var 0) (.cons (.cst (.int 2)) .nil)))) .nil))))) (.cons (.frz 3) (.cons (.ret (.tup (.cons (.var 8) (.cons (.var 3) (.cons (.call 25 (.cons (.var 0) (.cons (.var 1) .nil))) .nil))))) .nil))))))⟩
def c0__law_without : Ex := .comp [2] (.nm 2) (.x (.idx (.var 0) (.cst (.int 0)))) (.cmp .nin (.var 2) (.var 1)) (.var 2)
def f__law_without : Fn := ⟨2, 3, (.cons (.ret (.tup (.cons c0__law_without (.cons (.idx (.var 0) (.cst (.int 1))) (.cons (.idx (.var 0) (.cst (.int 2))) .nil))))) .nil)⟩
def f__law_with : Fn := ⟨2, 2, (.cons (.ret (.tup (.cons (.bin .add (.idx (.var 0) (.cst (.int 0))) (.var 1)) (.cons (.idx (.var 0) (.cst (.int 1))) (.cons (.idx (.var 0) (.cst (.int 2))) .nil))))) .nil)⟩
def c0__law_right : Ex := .comp [9] (.nm 9) (.x (.idx (.var 5) (.cst (.int 1)))) (.cmp .nin (.var 9) (.var 8)) (.var 9)
def c1__law_right : Ex := .comp [9] (.nm 9) (.keys 11) (.cmp .gt (.dgt2 (.var 10) (.var 9) (.bin .pow (.cst (.int 10)) (.cst (.int 12)))) (.idx (.var 11) (.var 9))) (.var 9)
def f__law_right : Fn := ⟨4, 13, (.cons (.asg (.nm 4) (.call 27 (.cons (.var 0) (.cons (.var 1) .nil)))) (.cons (.ite (.or (.cmp .ne (.call 16 (.cons (.var 0) (.cons (.var 1) .nil))) (.call 17 (.cons (.var 4) (.cons (.var 1) .nil)))) (.cmp .ne (.call 17 (.cons (.var 0) (.cons (.var 3) .nil))) (.call 16 (.cons (.call 28 (.cons (.var 0) (.cons (.var 3) .nil))) (.cons (.var 3) .nil))))) (.cons (.ret (.cst (.bool false))) .nil) .nil) (.cons (.par3 5 6 7 (.call 16 (.cons (.var 0) (.cons (.var 1) .nil))) (.call 16 (.cons (.var 4) (.cons (.var 2) .nil))) (.call 16 (.cons (.var 0) (.cons (.bin .add (.var 1) (.var 2)) .nil)))) (.cons (.asg (.nm 8) (.bin .add (.idx (.var 7) (.cst (.int 0))) (.idx (.var 7) (.cst (.int 1))))) (.cons (.ite (.or (.cmp .ne (.blt .sortedR (.cons (.bin .add (.idx (.var 5) (.cst (.int 0))) (.idx (.var 6) (.cst (.int 0)))) .nil)) (.idx (.var 7) (.cst (.int 0)))) (.cmp .ne c0__law_right (.dis .nil))) (.cons (.ret (.cst (.bool false))) .nil) .nil) (.cons (.asg (.tp (.cons (.nm 10) (.cons (.nm 11) .nil))) (.tup (.cons (.call 14 (.cons (.call 28 (.cons (.var 0) (.cons (.var 3) .nil))) .nil)) (.cons (.call 14 (.cons (.var 0) .nil)) .nil)))) (.cons (.ite (.cmp .ne c1__law_right (.dis .nil)) (.cons (.ret (.cst (.bool false))) .nil) .nil) (.cons (.asg (.nm 12) (.bin .add (.idx (.call 17 (.cons (.call 27 (.cons (.var 0) (.cons (.bin .add (.var 1) (.var 2)) .nil))) (.cons (.var 1) .nil))) (.cst (.int 0))) (.idx (.call 17 (.cons (.call 27 (.cons (.var 0) (.cons (.var 2) .nil))) (.cons (.var 2) .nil))) (.cst (.int 0))))) (.cons (.ret (.cmp .eq (.blt .sortedR (.cons (.var 12) .nil)) (.idx (.var 7) (.cst (.int 0))))) .nil)))))))))⟩
def c0_law : Ex := .comp [10] (.nm 10) (.x (.var 3)) (.cmp .nin (.var 10) (.idx (.var 4) (.cst (.int 0)))) (.var 10)
def b1_law : Sms := (.cons (.asg (.nm 2) (.mut (.call 18 (.cons (.var 0) (.cons (.var 1) .nil))))) (.cons (.asg (.nm 3) (.call 21 (.cons (.var 2) .nil))) (.cons (.asg (.nm 4) (.call 26 (.cons (.var 2) (.cons (.var 3) (.cons (.cst (.int 6)) .nil))))) (.cons (.asg (.nm 5) (.call 22 (.cons (.var 2) (.cons (.idx (.var 4) (.cst (.int 0))) (.cons (.cst (.int 6)) .nil))))) (.cons (.par 6 7 (.call 19 (.cons (.var 2) (.cons (.bin .add (.len (.var 5)) (.cst (.int 1))) .nil))) (.call 19 (.cons (.var 2) (.cons (.bin .add (.len (.var 5)) (.cst (.int 1))) .nil)))) (.cons (.asg (.nm 8) c0_law) (.cons (.asg (.nm 9) (.call 22 (.cons (.var 2) (.cons (.var 8) (.cons (.bin .add (.cst (.int 1)) (.call 19 (.cons (.var 2) (.cons (.cst (.int 3)) .nil)))) .nil))))) (.cons (.ite (.not (.call 29 (.cons (.var 4) (.cons (.sl (.var 5) (.cst .none) (.blt .min2 (.cons (.var 6) (.cons (.var 7) .nil)))) (.cons (.sl (.var 5) (.blt .min2 (.cons (.var 6) (.cons (.var 7) .nil))) (.blt .max2 (.cons (.var 6) (.cons (.var 7) .nil)))) (.cons (.var 9) .nil)))))) (.cons (.ret (.cst (.bool false))) .nil) .nil) .nil))))))))
def l2_law : Sm := .loop (.nm 1) (.rng (.blt .max2 (.cons (.cst (.int 1)) (.cons (.blt .min2 (.cons (.cst (.int 10)) (.cons (.len (.var 0)) .nil))) .nil)))) b1_law
def f_law : Fn := ⟨1, 11, (.cons l2_law (.cons (.ret (.cst (.bool true))) .nil))⟩
def Fs : List Fn := [f_is_count, f_is_name, f_is_tuple_of, f_is_place, f_are_places, f_are_premises, f_is_rule, f_is_road, f_is_world, f_need_world, f_is_near, f_living, f_height_by, f_least_of, f_least, f_more_of, f_falls, f_gains, f__law_pot, f__law_take, f__law_names, f__law_places, f__law_some, f__law_cost, f__law_round, f__law_roads, f__law_few, f__law_without, f__law_with, f__law_right, f_law]
def stAt (i : Nat) : Stmt := (PySem.Challenge.pw_leanfar_k21_whole_taken_back_and_vouched.main.body).getD i (.Pass ⟨0, 0, 0, 0⟩)
def r_is_count : Row := ⟨"is_count", stAt 10, f_is_count, ["thing", "least"], ["thing", "least"]⟩
def r_is_name : Row := ⟨"is_name", stAt 11, f_is_name, ["thing", "sign"], ["thing"]⟩
def r_is_tuple_of : Row := ⟨"is_tuple_of", stAt 12, f_is_tuple_of, ["thing", "many"], ["thing", "many"]⟩
def r_is_place : Row := ⟨"is_place", stAt 13, f_is_place, ["thing", "part"], ["thing"]⟩
def r_are_places : Row := ⟨"are_places", stAt 14, f_are_places, ["thing", "one"], ["thing"]⟩
def r_are_premises : Row := ⟨"are_premises", stAt 15, f_are_premises, ["thing"], ["thing"]⟩
def r_is_rule : Row := ⟨"is_rule", stAt 16, f_is_rule, ["thing", "hand", "saying", "cost", "premises"], ["thing"]⟩
def r_is_road : Row := ⟨"is_road", stAt 17, f_is_road, ["thing"], ["thing"]⟩
def r_is_world : Row := ⟨"is_world", stAt 18, f_is_world, ["thing", "vouched", "rules", "roads", "rule", "road"], ["thing"]⟩
def r_need_world : Row := ⟨"need_world", stAt 19, f_need_world, ["thing"], ["thing"]⟩
def r_is_near : Row := ⟨"is_near", stAt 20, f_is_near, ["roads", "hand", "other"], ["roads", "hand", "other"]⟩
def r_living : Row := ⟨"living", stAt 22, f_living, ["world", "vouched", "rules", "roads", "found", "number", "hand", "saying", "cost", "premises", "other", "what"], ["world"]⟩
def r_height_by : Row := ⟨"height_by", stAt 23, f_height_by, ["heights", "rule", "number", "place", "cost", "premises", "some", "premise"], ["heights", "rule"]⟩
def r_least_of : Row := ⟨"least_of", stAt 24, f_least_of, ["vouched", "rules", "heights", "place", "lessened", "rule", "height"], ["vouched", "rules"]⟩
def r_least : Row := ⟨"least", stAt 25, f_least, ["world"], ["world"]⟩
def r_more_of : Row := ⟨"more_of", stAt 27, f_more_of, ["heights", "others", "alone", "place", "lesser", "height"], ["heights", "others"]⟩
def r_falls : Row := ⟨"falls", stAt 28, f_falls, ["world", "places", "place", "rules", "left"], ["world", "places"]⟩
def r_gains : Row := ⟨"gains", stAt 29, f_gains, ["world", "places", "place", "rules"], ["world", "places"]⟩
def r__law_pot : Row := ⟨"_law_pot", stAt 31, f__law_pot, ["script", "k", "cell"], ["script", "k"]⟩
def r__law_take : Row := ⟨"_law_take", stAt 32, f__law_take, ["pot", "many", "found", "mixed"], ["pot", "many"]⟩
def r__law_names : Row := ⟨"_law_names", stAt 33, f__law_names, ["pot", "many", "left", "k"], ["pot", "many"]⟩
def r__law_places : Row := ⟨"_law_places", stAt 34, f__law_places, ["pot", "sayings", "found", "hand", "saying"], ["pot"]⟩
def r__law_some : Row := ⟨"_law_some", stAt 35, f__law_some, ["pot", "places", "many", "left", "k"], ["pot", "places", "many"]⟩
def r__law_cost : Row := ⟨"_law_cost", stAt 36, f__law_cost, ["pot"], ["pot"]⟩
def r__law_round : Row := ⟨"_law_round", stAt 37, f__law_round, ["pot", "places", "row", "k"], ["pot", "places"]⟩
def r__law_roads : Row := ⟨"_law_roads", stAt 38, f__law_roads, ["pot", "places", "hands", "hand", "saying", "often", "found", "k", "other"], ["pot", "places"]⟩
def r__law_few : Row := ⟨"_law_few", stAt 39, f__law_few, ["pot", "places", "most", "rules", "k", "hand", "saying", "some", "vouched"], ["pot", "places", "most"]⟩
def r__law_without : Row := ⟨"_law_without", stAt 40, f__law_without, ["world", "row", "place"], ["world", "row"]⟩
def r__law_with : Row := ⟨"_law_with", stAt 41, f__law_with, ["world", "row"], ["world", "row"]⟩
def r__law_right : Row := ⟨"_law_right", stAt 42, f__law_right, ["world", "one", "other", "more", "bare", "first", "second", "both", "later", "place", "wide", "told", "grown"], ["world", "one", "other", "more"]⟩
def r_law : Row := ⟨"law", stAt 43, f_law, ["script", "k", "pot", "places", "world", "some", "at", "to", "others", "more", "place"], ["script"]⟩
def rows : List Row := [r_is_count, r_is_name, r_is_tuple_of, r_is_place, r_are_places, r_are_premises, r_is_rule, r_is_road, r_is_world, r_need_world, r_is_near, r_living, r_height_by, r_least_of, r_least, r_more_of, r_falls, r_gains, r__law_pot, r__law_take, r__law_names, r__law_places, r__law_some, r__law_cost, r__law_round, r__law_roads, r__law_few, r__law_without, r__law_with, r__law_right, r_law]
def tab : Tab := ⟨"is_count" :: "is_name" :: "is_tuple_of" :: "is_place" :: "are_places" :: "are_premises" :: "is_rule" :: "is_road" :: "is_world" :: "need_world" :: "is_near" :: "living" :: "height_by" :: "least_of" :: "least" :: "more_of" :: "falls" :: "gains" :: "_law_pot" :: "_law_take" :: "_law_names" :: "_law_places" :: "_law_some" :: "_law_cost" :: "_law_round" :: "_law_roads" :: "_law_few" :: "_law_without" :: "_law_with" :: "_law_right" :: "law" :: [], [("MOST_LETTERS", (.int 8)), ("LETTERS", (.str "abcdefghijklmnopqrstuvwxyz")), ("MOST_PREMISES", (.int 8))], ["isinstance", "bool", "int", "len", "str", "all", "tuple", "list", "set", "min", "max", "enumerate", "sorted", "range"], [("is_count", [(.int 0)])], []⟩
theorem Fs_eq : rows.map (·.fn) = Fs := rfl
theorem rows_ok : rows.all (rowB tab) = true := by decide +kernel
theorem b_is_count : BindOkD 1 r_is_count := fun _ _ _ _ _ _ _ us its hl hd => match us, its, hl, hd with | [_, _], [_], _, _ => ⟨_, rfl, rfl⟩
theorem d_is_count : BindOkF 1 r_is_count := fun _ _ _ _ _ _ _ us its hl hd => match us, its, hl, hd with | [_], [_], _, _ => ⟨_, rfl, rfl⟩
theorem b_is_name : BindOk r_is_name := fun _ _ _ _ _ _ us hl => match us, hl with | [_], _ => rfl
theorem b_is_tuple_of : BindOk r_is_tuple_of := fun _ _ _ _ _ _ us hl => match us, hl with | [_, _], _ => rfl
theorem b_is_place : BindOk r_is_place := fun _ _ _ _ _ _ us hl => match us, hl with | [_], _ => rfl
theorem b_are_places : BindOk r_are_places := fun _ _ _ _ _ _ us hl => match us, hl with | [_], _ => rfl
theorem b_are_premises : BindOk r_are_premises := fun _ _ _ _ _ _ us hl => match us, hl with | [_], _ => rfl
theorem b_is_rule : BindOk r_is_rule := fun _ _ _ _ _ _ us hl => match us, hl with | [_], _ => rfl
theorem b_is_road : BindOk r_is_road := fun _ _ _ _ _ _ us hl => match us, hl with | [_], _ => rfl
theorem b_is_world : BindOk r_is_world := fun _ _ _ _ _ _ us hl => match us, hl with | [_], _ => rfl
theorem b_need_world : BindOk r_need_world := fun _ _ _ _ _ _ us hl => match us, hl with | [_], _ => rfl
theorem b_is_near : BindOk r_is_near := fun _ _ _ _ _ _ us hl => match us, hl with | [_, _, _], _ => rfl
theorem b_living : BindOk r_living := fun _ _ _ _ _ _ us hl => match us, hl with | [_], _ => rfl
theorem b_height_by : BindOk r_height_by := fun _ _ _ _ _ _ us hl => match us, hl with | [_, _], _ => rfl
theorem b_least_of : BindOk r_least_of := fun _ _ _ _ _ _ us hl => match us, hl with | [_, _], _ => rfl
theorem b_least : BindOk r_least := fun _ _ _ _ _ _ us hl => match us, hl with | [_], _ => rfl
theorem b_more_of : BindOk r_more_of := fun _ _ _ _ _ _ us hl => match us, hl with | [_, _], _ => rfl
theorem b_falls : BindOk r_falls := fun _ _ _ _ _ _ us hl => match us, hl with | [_, _], _ => rfl
theorem b_gains : BindOk r_gains := fun _ _ _ _ _ _ us hl => match us, hl with | [_, _], _ => rfl
theorem b__law_pot : BindOk r__law_pot := fun _ _ _ _ _ _ us hl => match us, hl with | [_, _], _ => rfl
theorem b__law_take : BindOk r__law_take := fun _ _ _ _ _ _ us hl => match us, hl with | [_, _], _ => rfl
theorem b__law_names : BindOk r__law_names := fun _ _ _ _ _ _ us hl => match us, hl with | [_, _], _ => rfl
theorem b__law_places : BindOk r__law_places := fun _ _ _ _ _ _ us hl => match us, hl with | [_], _ => rfl
theorem b__law_some : BindOk r__law_some := fun _ _ _ _ _ _ us hl => match us, hl with | [_, _, _], _ => rfl
theorem b__law_cost : BindOk r__law_cost := fun _ _ _ _ _ _ us hl => match us, hl with | [_], _ => rfl
theorem b__law_round : BindOk r__law_round := fun _ _ _ _ _ _ us hl => match us, hl with | [_, _], _ => rfl
theorem b__law_roads : BindOk r__law_roads := fun _ _ _ _ _ _ us hl => match us, hl with | [_, _], _ => rfl
theorem b__law_few : BindOk r__law_few := fun _ _ _ _ _ _ us hl => match us, hl with | [_, _, _], _ => rfl
theorem b__law_without : BindOk r__law_without := fun _ _ _ _ _ _ us hl => match us, hl with | [_, _], _ => rfl
theorem b__law_with : BindOk r__law_with := fun _ _ _ _ _ _ us hl => match us, hl with | [_, _], _ => rfl
theorem b__law_right : BindOk r__law_right := fun _ _ _ _ _ _ us hl => match us, hl with | [_, _, _, _], _ => rfl
theorem b_law : BindOk r_law := fun _ _ _ _ _ _ us hl => match us, hl with | [_], _ => rfl
end Lf

set_option Elab.async false
set_option linter.all false
set_option maxRecDepth 100000
set_option maxHeartbeats 4000000
set_option exponentiation.threshold 4000
namespace Lf
open PySem PySem.Spec PyProof.Rows L2
def chars (x : Str) : List PyData := x.cps.toList.map fun c => .str ⟨#[c]⟩
def lettersL : List Nat := (Str.ofString "abcdefghijklmnopqrstuvwxyz").cps.toList
def inl : PyData → Bool
  | .str z => (match z.cps.toList with
    | [c] => decide (c ∈ lettersL)
    | _ => false)
  | _ => false
def nameB : PyData → Bool
  | .str x => decide (1 ≤ x.length) && decide (x.length ≤ 8) && (chars x).all inl
  | _ => false
def placeB : PyData → Bool
  | .tuple xs => decide (xs.length = 2) && xs.all nameB
  | _ => false
def keysL (xs : List PyData) : List (List Key) := (tksOf xs).getD []
def placesB : PyData → Bool
  | .list xs => xs.all placeB && decide (keysL xs).Nodup
  | _ => false
def countB (m : Int) : PyData → Bool
  | .int i => decide (m ≤ i)
  | _ => false
def lenB (d : PyData) : Bool := match d with
  | .list xs => decide (1 ≤ xs.length) && decide (xs.length ≤ 8)
  | _ => false
def ruleB : PyData → Bool
  | .tuple [h, s, c, p] => nameB h && (nameB s && (countB 1 c && (placesB p && lenB p)))
  | _ => false
def rulesB : PyData → Bool
  | .list xs => xs.all ruleB
  | _ => false
def roadB : PyData → Bool
  | .tuple [.str a, .str b] => nameB (.str a) && (nameB (.str b) && decide (a.cps.toList < b.cps.toList))
  | _ => false
def roadsB : PyData → Bool
  | .list xs => xs.all roadB && decide (keysL xs).Nodup
  | _ => false
def worldB : PyData → Bool
  | .tuple [v, r, o] => placesB v && (rulesB r && roadsB o)
  | _ => false
theorem gt_tuple {L B N D : Nat} {xs : List PyData} (g : Gt L B N D (.tuple xs)) : Gs L B N D xs := by
  have l := g.lg
  have c := g.cost
  have d := g.dep
  simp only [lg, Bool.and_eq_true, decide_eq_true_eq, cost, PyData.depth] at l c d
  exact ⟨l.1, l.2, by omega, depthAll_le.mpr (by omega)⟩
def short : PyData → Prop
  | .str x => x.length ≤ lim ∧ PyData.strOk x = true
  | _ => True
def shorts (d : PyData) : Prop := match d with
  | .tuple xs => ∀ x ∈ xs, short x
  | _ => short d
theorem is_tuple_of (k : Nat) (d : PyData) (m : Int) : run Fs (k + 1) 2 [.d d, .d (.int m)] [] = .ok (.val (.d (.bool (match d with
    | .tuple xs => decide ((xs.length : Int) = m)
    | _ => false)))) [] := by
  rw [run_at (fn := f_is_tuple_of) rfl rfl]
  cases d <;> simp [f_is_tuple_of, lim, startE, execs, exec, ev, evT, evs, evI, M.bind, M.pure, M.lift, val, datum, settle, toDM, toDwM, toD, toDw, cellAt, Vl.asD, binO, addO, cmpO, eqO_int, eqO_str, eqO_b2, inO, ltO, leO, isNone, truthO, lenO, idxO, sliceO, L2.atI, L2.ixN, bindO, bindT, bindTs, wipeE, wipes, bltO, asBools, isaO, setM, leave, exitO, callM, callIn, cellsAt, putBack, outBack, alloc, mthM, preM, toDsM, allD, cont, partO, isAbs, optI, itemsO, noExc, rngL, atom, smallI]
theorem chars_len {x : Str} : (chars x).length = x.length := by simp [chars, Str.length]
theorem c0_name {C : CallT} {x : Str} (hl : x.length ≤ lim) : ev C c0_is_name [some (.d (.str x)), none] [] = .ok (.lst ((chars x).map fun d => .bool (inl d))) [] := by
  have q := comp_pure (C := C) (own := [1]) (t := .nm 1) (it := .x (.var 0)) (c := .cst (.bool true)) (e := .cmp .inn (.var 1) (.glb "LETTERS" (.str "abcdefghijklmnopqrstuvwxyz"))) (E := [some (.d (.str x)), none]) (S := []) (S1 := []) (xs := chars x) (fun _ => true) (fun d => .bool (inl d))
    (by simp [lim, startE, execs, exec, ev, evT, evs, evI, M.bind, M.pure, M.lift, val, datum, settle, toDM, toDwM, toD, toDw, cellAt, Vl.asD, binO, addO, cmpO, eqO_int, eqO_str, eqO_b2, inO, ltO, leO, isNone, truthO, lenO, idxO, sliceO, L2.atI, L2.ixN, bindO, bindT, bindTs, wipeE, wipes, bltO, asBools, isaO, setM, leave, exitO, callM, callIn, cellsAt, putBack, outBack, alloc, mthM, preM, toDsM, allD, cont, partO, isAbs, optI, itemsO, noExc, rngL, atom, smallI, chars]) rfl (by rw [chars_len]; exact hl) fun d hd => by
      obtain ⟨c, _, rfl⟩ := List.mem_map.mp hd
      exact ⟨_, rfl, by simp [lim, startE, execs, exec, ev, evT, evs, evI, M.bind, M.pure, M.lift, val, datum, settle, toDM, toDwM, toD, toDw, cellAt, Vl.asD, binO, addO, cmpO, eqO_int, eqO_str, eqO_b2, inO, ltO, leO, isNone, truthO, lenO, idxO, sliceO, L2.atI, L2.ixN, bindO, bindT, bindTs, wipeE, wipes, bltO, asBools, isaO, setM, leave, exitO, callM, callIn, cellsAt, putBack, outBack, alloc, mthM, preM, toDsM, allD, cont, partO, isAbs, optI, itemsO, noExc, rngL, atom, smallI], fun _ => by simp [lim, startE, execs, exec, ev, evT, evs, evI, M.bind, M.pure, M.lift, val, datum, settle, toDM, toDwM, toD, toDw, cellAt, Vl.asD, binO, addO, cmpO, eqO_int, eqO_str, eqO_b2, inO, ltO, leO, isNone, truthO, lenO, idxO, sliceO, L2.atI, L2.ixN, bindO, bindT, bindTs, wipeE, wipes, bltO, asBools, isaO, setM, leave, exitO, callM, callIn, cellsAt, putBack, outBack, alloc, mthM, preM, toDsM, allD, cont, partO, isAbs, optI, itemsO, noExc, rngL, atom, smallI, inl, lettersL]⟩
  rw [List.filter_eq_self.mpr fun _ _ => rfl] at q
  exact q
theorem asBools_map {l : List PyData} {f : PyData → Bool} : asBools (l.map fun d => .bool (f d)) = some (l.map f) := by
  induction l with
  | nil => rfl
  | cons a l ih => simp [asBools, ih]
theorem is_name (k : Nat) (d : PyData) (hs : short d) : run Fs (k + 1) 1 [.d d] [] = .ok (.val (.d (.bool (nameB d)))) [] := by
  rw [run_at (fn := f_is_name) rfl rfl]
  cases d with
  | str x =>
    have hl : x.length ≤ lim := hs.1
    have hl' : x.length ≤ 1000000 := hs.1
    by_cases h1 : 1 ≤ x.length
    · have h1' : (1 : Int) ≤ (x.length : Int) := by omega
      by_cases h2 : x.length ≤ 8
      · have h2' : (x.length : Int) ≤ 8 := by omega
        simp [f_is_name, lim, startE, execs, exec, ev, evT, evs, evI, M.bind, M.pure, M.lift, val, datum, settle, toDM, toDwM, toD, toDw, cellAt, Vl.asD, binO, addO, cmpO, eqO_int, eqO_str, eqO_b2, inO, ltO, leO, isNone, truthO, lenO, idxO, sliceO, L2.atI, L2.ixN, bindO, bindT, bindTs, wipeE, wipes, bltO, asBools, isaO, setM, leave, exitO, callM, callIn, cellsAt, putBack, outBack, alloc, mthM, preM, toDsM, allD, cont, partO, isAbs, optI, itemsO, noExc, rngL, atom, smallI, hl', h1', h2', c0_name hl, asBools_map, nameB, h1, h2]
      · have h2' : ¬ (x.length : Int) ≤ 8 := by omega
        simp [f_is_name, lim, startE, execs, exec, ev, evT, evs, evI, M.bind, M.pure, M.lift, val, datum, settle, toDM, toDwM, toD, toDw, cellAt, Vl.asD, binO, addO, cmpO, eqO_int, eqO_str, eqO_b2, inO, ltO, leO, isNone, truthO, lenO, idxO, sliceO, L2.atI, L2.ixN, bindO, bindT, bindTs, wipeE, wipes, bltO, asBools, isaO, setM, leave, exitO, callM, callIn, cellsAt, putBack, outBack, alloc, mthM, preM, toDsM, allD, cont, partO, isAbs, optI, itemsO, noExc, rngL, atom, smallI, hl', h1', h2', nameB, h1, h2]
    · have h1' : ¬ (1 : Int) ≤ (x.length : Int) := by omega
      simp [f_is_name, lim, startE, execs, exec, ev, evT, evs, evI, M.bind, M.pure, M.lift, val, datum, settle, toDM, toDwM, toD, toDw, cellAt, Vl.asD, binO, addO, cmpO, eqO_int, eqO_str, eqO_b2, inO, ltO, leO, isNone, truthO, lenO, idxO, sliceO, L2.atI, L2.ixN, bindO, bindT, bindTs, wipeE, wipes, bltO, asBools, isaO, setM, leave, exitO, callM, callIn, cellsAt, putBack, outBack, alloc, mthM, preM, toDsM, allD, cont, partO, isAbs, optI, itemsO, noExc, rngL, atom, smallI, hl', h1', nameB, h1]
  | _ => simp [f_is_name, lim, startE, execs, exec, ev, evT, evs, evI, M.bind, M.pure, M.lift, val, datum, settle, toDM, toDwM, toD, toDw, cellAt, Vl.asD, binO, addO, cmpO, eqO_int, eqO_str, eqO_b2, inO, ltO, leO, isNone, truthO, lenO, idxO, sliceO, L2.atI, L2.ixN, bindO, bindT, bindTs, wipeE, wipes, bltO, asBools, isaO, setM, leave, exitO, callM, callIn, cellsAt, putBack, outBack, alloc, mthM, preM, toDsM, allD, cont, partO, isAbs, optI, itemsO, noExc, rngL, atom, smallI, nameB]
theorem c0_place {k : Nat} {xs : List PyData} (hl : xs.length ≤ lim) (hs : ∀ x ∈ xs, short x) : ev (run Fs (k + 1)) c0_is_place [some (.d (.tuple xs)), none] [] = .ok (.lst (xs.map fun d => .bool (nameB d))) [] := by
  have q := comp_pure (C := run Fs (k + 1)) (own := [1]) (t := .nm 1) (it := .x (.var 0)) (c := .cst (.bool true)) (e := .call 1 (.cons (.var 1) .nil)) (E := [some (.d (.tuple xs)), none]) (S := []) (S1 := []) (xs := xs) (fun _ => true) (fun d => .bool (nameB d))
    (by simp [lim, startE, execs, exec, ev, evT, evs, evI, M.bind, M.pure, M.lift, val, datum, settle, toDM, toDwM, toD, toDw, cellAt, Vl.asD, binO, addO, cmpO, eqO_int, eqO_str, eqO_b2, inO, ltO, leO, isNone, truthO, lenO, idxO, sliceO, L2.atI, L2.ixN, bindO, bindT, bindTs, wipeE, wipes, bltO, asBools, isaO, setM, leave, exitO, callM, callIn, cellsAt, putBack, outBack, alloc, mthM, preM, toDsM, allD, cont, partO, isAbs, optI, itemsO, noExc, rngL, atom, smallI]) rfl hl fun d hd => ⟨_, rfl, by simp [lim, startE, execs, exec, ev, evT, evs, evI, M.bind, M.pure, M.lift, val, datum, settle, toDM, toDwM, toD, toDw, cellAt, Vl.asD, binO, addO, cmpO, eqO_int, eqO_str, eqO_b2, inO, ltO, leO, isNone, truthO, lenO, idxO, sliceO, L2.atI, L2.ixN, bindO, bindT, bindTs, wipeE, wipes, bltO, asBools, isaO, setM, leave, exitO, callM, callIn, cellsAt, putBack, outBack, alloc, mthM, preM, toDsM, allD, cont, partO, isAbs, optI, itemsO, noExc, rngL, atom, smallI], fun _ => by simp [lim, startE, execs, exec, ev, evT, evs, evI, M.bind, M.pure, M.lift, val, datum, settle, toDM, toDwM, toD, toDw, cellAt, Vl.asD, binO, addO, cmpO, eqO_int, eqO_str, eqO_b2, inO, ltO, leO, isNone, truthO, lenO, idxO, sliceO, L2.atI, L2.ixN, bindO, bindT, bindTs, wipeE, wipes, bltO, asBools, isaO, setM, leave, exitO, callM, callIn, cellsAt, putBack, outBack, alloc, mthM, preM, toDsM, allD, cont, partO, isAbs, optI, itemsO, noExc, rngL, atom, smallI, is_name k d (hs d hd)]⟩
  rw [List.filter_eq_self.mpr fun _ _ => rfl] at q
  exact q
theorem is_place (k : Nat) (d : PyData) (hs : shorts d) : run Fs (k + 2) 3 [.d d] [] = .ok (.val (.d (.bool (placeB d)))) [] := by
  rw [run_at (fn := f_is_place) rfl rfl]
  cases d with
  | tuple xs =>
    by_cases h : xs.length = 2
    · have hl : xs.length ≤ lim := by rw [h]; decide
      simp [f_is_place, lim, startE, execs, exec, ev, evT, evs, evI, M.bind, M.pure, M.lift, val, datum, settle, toDM, toDwM, toD, toDw, cellAt, Vl.asD, binO, addO, cmpO, eqO_int, eqO_str, eqO_b2, inO, ltO, leO, isNone, truthO, lenO, idxO, sliceO, L2.atI, L2.ixN, bindO, bindT, bindTs, wipeE, wipes, bltO, asBools, isaO, setM, leave, exitO, callM, callIn, cellsAt, putBack, outBack, alloc, mthM, preM, toDsM, allD, cont, partO, isAbs, optI, itemsO, noExc, rngL, atom, smallI, is_tuple_of, h, placeB, c0_place hl hs, asBools_map]
    · have h' : ¬ (xs.length : Int) = 2 := by omega
      simp [f_is_place, lim, startE, execs, exec, ev, evT, evs, evI, M.bind, M.pure, M.lift, val, datum, settle, toDM, toDwM, toD, toDw, cellAt, Vl.asD, binO, addO, cmpO, eqO_int, eqO_str, eqO_b2, inO, ltO, leO, isNone, truthO, lenO, idxO, sliceO, L2.atI, L2.ixN, bindO, bindT, bindTs, wipeE, wipes, bltO, asBools, isaO, setM, leave, exitO, callM, callIn, cellsAt, putBack, outBack, alloc, mthM, preM, toDsM, allD, cont, partO, isAbs, optI, itemsO, noExc, rngL, atom, smallI, is_tuple_of, h, h', placeB]
  | _ => simp [f_is_place, lim, startE, execs, exec, ev, evT, evs, evI, M.bind, M.pure, M.lift, val, datum, settle, toDM, toDwM, toD, toDw, cellAt, Vl.asD, binO, addO, cmpO, eqO_int, eqO_str, eqO_b2, inO, ltO, leO, isNone, truthO, lenO, idxO, sliceO, L2.atI, L2.ixN, bindO, bindT, bindTs, wipeE, wipes, bltO, asBools, isaO, setM, leave, exitO, callM, callIn, cellsAt, putBack, outBack, alloc, mthM, preM, toDsM, allD, cont, partO, isAbs, optI, itemsO, noExc, rngL, atom, smallI, is_tuple_of, placeB]
theorem c0_are {k : Nat} {xs : List PyData} (hl : xs.length ≤ lim) (hs : ∀ x ∈ xs, shorts x) : ev (run Fs (k + 2)) c0_are_places [some (.d (.list xs)), none] [] = .ok (.lst (xs.map fun d => .bool (placeB d))) [] := by
  have q := comp_pure (C := run Fs (k + 2)) (own := [1]) (t := .nm 1) (it := .x (.var 0)) (c := .cst (.bool true)) (e := .call 3 (.cons (.var 1) .nil)) (E := [some (.d (.list xs)), none]) (S := []) (S1 := []) (xs := xs) (fun _ => true) (fun d => .bool (placeB d))
    (by simp [lim, startE, execs, exec, ev, evT, evs, evI, M.bind, M.pure, M.lift, val, datum, settle, toDM, toDwM, toD, toDw, cellAt, Vl.asD, binO, addO, cmpO, eqO_int, eqO_str, eqO_b2, inO, ltO, leO, isNone, truthO, lenO, idxO, sliceO, L2.atI, L2.ixN, bindO, bindT, bindTs, wipeE, wipes, bltO, asBools, isaO, setM, leave, exitO, callM, callIn, cellsAt, putBack, outBack, alloc, mthM, preM, toDsM, allD, cont, partO, isAbs, optI, itemsO, noExc, rngL, atom, smallI]) rfl hl fun d hd => ⟨_, rfl, by simp [lim, startE, execs, exec, ev, evT, evs, evI, M.bind, M.pure, M.lift, val, datum, settle, toDM, toDwM, toD, toDw, cellAt, Vl.asD, binO, addO, cmpO, eqO_int, eqO_str, eqO_b2, inO, ltO, leO, isNone, truthO, lenO, idxO, sliceO, L2.atI, L2.ixN, bindO, bindT, bindTs, wipeE, wipes, bltO, asBools, isaO, setM, leave, exitO, callM, callIn, cellsAt, putBack, outBack, alloc, mthM, preM, toDsM, allD, cont, partO, isAbs, optI, itemsO, noExc, rngL, atom, smallI], fun _ => by simp [lim, startE, execs, exec, ev, evT, evs, evI, M.bind, M.pure, M.lift, val, datum, settle, toDM, toDwM, toD, toDw, cellAt, Vl.asD, binO, addO, cmpO, eqO_int, eqO_str, eqO_b2, inO, ltO, leO, isNone, truthO, lenO, idxO, sliceO, L2.atI, L2.ixN, bindO, bindT, bindTs, wipeE, wipes, bltO, asBools, isaO, setM, leave, exitO, callM, callIn, cellsAt, putBack, outBack, alloc, mthM, preM, toDsM, allD, cont, partO, isAbs, optI, itemsO, noExc, rngL, atom, smallI, is_place k d (hs d hd)]⟩
  rw [List.filter_eq_self.mpr fun _ _ => rfl] at q
  exact q
theorem place_form {d : PyData} (h : placeB d = true) : ∃ a b, d = .tuple [.str a, .str b] ∧ nameB (.str a) = true ∧ nameB (.str b) = true := by
  cases d <;> simp only [placeB] at h <;> try (cases h; done)
  simp only [Bool.and_eq_true, decide_eq_true_eq] at h
  rename_i xs
  match xs, h with
  | [a, b], h =>
    simp only [List.all_cons, List.all_nil, Bool.and_true, Bool.and_eq_true] at h
    obtain ⟨_, h1, h2⟩ := h
    cases a <;> simp only [nameB] at h1 <;> try (cases h1; done)
    cases b <;> simp only [nameB] at h2 <;> try (cases h2; done)
    exact ⟨_, _, rfl, by simpa only [nameB] using h1, by simpa only [nameB] using h2⟩
theorem tks_cons (a b : Str) (r : List PyData) : tksOf (.tuple [.str a, .str b] :: r) = (tksOf r).map ([.inr a, .inr b] :: ·) := by
  simp only [tksOf, keysOf, keyOf]
  cases tksOf r <;> rfl
theorem tks_places : ∀ {xs : List PyData}, xs.all placeB = true → tksOf xs = some (keysL xs) ∧ (keysL xs).length = xs.length
  | [], _ => ⟨rfl, rfl⟩
  | x :: xs, h => by
    rw [List.all_cons, Bool.and_eq_true] at h
    obtain ⟨a, b, rfl, _⟩ := place_form h.1
    obtain ⟨h1, h2⟩ := tks_places h.2
    have e : tksOf (.tuple [.str a, .str b] :: xs) = some ([.inr a, .inr b] :: keysL xs) := by rw [tks_cons, h1]; rfl
    have e2 : keysL (.tuple [.str a, .str b] :: xs) = [.inr a, .inr b] :: keysL xs := by
      show (tksOf _).getD [] = _
      rw [e]; rfl
    rw [e, e2]
    exact ⟨rfl, by simp [h2]⟩
theorem are_places (k : Nat) (d : PyData) (hs : ∀ xs, d = .list xs → (∀ x ∈ xs, shorts x) ∧ xs.length < 307) : run Fs (k + 3) 4 [.d d] [] = .ok (.val (.d (.bool (placesB d)))) [] := by
  rw [run_at (fn := f_are_places) rfl rfl]
  cases d with
  | list xs =>
    obtain ⟨s1, s2⟩ := hs xs rfl
    have hl : xs.length ≤ lim := by show _ ≤ 1000000; omega
    cases p : xs.all placeB with
    | false => simp [f_are_places, lim, startE, execs, exec, ev, evT, evs, evI, M.bind, M.pure, M.lift, val, datum, settle, toDM, toDwM, toD, toDw, cellAt, Vl.asD, binO, addO, cmpO, eqO_int, eqO_str, eqO_b2, inO, ltO, leO, isNone, truthO, lenO, idxO, sliceO, L2.atI, L2.ixN, bindO, bindT, bindTs, wipeE, wipes, bltO, asBools, isaO, setM, leave, exitO, callM, callIn, cellsAt, putBack, outBack, alloc, mthM, preM, toDsM, allD, cont, partO, isAbs, optI, itemsO, noExc, rngL, atom, smallI, c0_are hl s1, asBools_map, p, placesB, List.all_map, Function.comp_def]
    | true =>
      obtain ⟨t1, t2⟩ := tks_places p
      have e : decide (((uniq (keysL xs)).length : Int) = (xs.length : Int)) = decide (keysL xs).Nodup := by
        rw [Bool.eq_iff_iff, decide_eq_true_eq, decide_eq_true_eq, ← uniq_len, t2]
        omega
      simp [f_are_places, lim, startE, execs, exec, ev, evT, evs, evI, M.bind, M.pure, M.lift, val, datum, settle, toDM, toDwM, toD, toDw, cellAt, Vl.asD, binO, addO, cmpO, eqO_int, eqO_str, eqO_b2, inO, ltO, leO, isNone, truthO, lenO, idxO, sliceO, L2.atI, L2.ixN, bindO, bindT, bindTs, wipeE, wipes, bltO, asBools, isaO, setM, leave, exitO, callM, callIn, cellsAt, putBack, outBack, alloc, mthM, preM, toDsM, allD, cont, partO, isAbs, optI, itemsO, noExc, rngL, atom, smallI, c0_are hl s1, asBools_map, p, placesB, lensO, s2, t1, List.all_map, Function.comp_def, e]
  | _ => simp [f_are_places, lim, startE, execs, exec, ev, evT, evs, evI, M.bind, M.pure, M.lift, val, datum, settle, toDM, toDwM, toD, toDw, cellAt, Vl.asD, binO, addO, cmpO, eqO_int, eqO_str, eqO_b2, inO, ltO, leO, isNone, truthO, lenO, idxO, sliceO, L2.atI, L2.ixN, bindO, bindT, bindTs, wipeE, wipes, bltO, asBools, isaO, setM, leave, exitO, callM, callIn, cellsAt, putBack, outBack, alloc, mthM, preM, toDsM, allD, cont, partO, isAbs, optI, itemsO, noExc, rngL, atom, smallI, placesB]
theorem gt_list {L B N D : Nat} {xs : List PyData} (g : Gt L B N D (.list xs)) : Gs L B N D xs := by
  have l := g.lg
  have c := g.cost
  have d := g.dep
  simp only [lg, Bool.and_eq_true, decide_eq_true_eq, cost, PyData.depth] at l c d
  exact ⟨l.1, l.2, by omega, depthAll_le.mpr (by omega)⟩
theorem is_count (k : Nat) (d : PyData) (m : Int) : run Fs (k + 1) 0 [.d d, .d (.int m)] [] = .ok (.val (.d (.bool (countB m d)))) [] := by
  rw [run_at (fn := f_is_count) rfl rfl]
  cases d <;> simp [f_is_count, lim, startE, execs, exec, ev, evT, evs, evI, M.bind, M.pure, M.lift, val, datum, settle, toDM, toDwM, toD, toDw, cellAt, Vl.asD, binO, addO, cmpO, eqO_int, eqO_str, eqO_b2, inO, ltO, leO, isNone, truthO, lenO, idxO, sliceO, L2.atI, L2.ixN, bindO, bindT, bindTs, wipeE, wipes, bltO, asBools, isaO, setM, leave, exitO, callM, callIn, cellsAt, putBack, outBack, alloc, mthM, preM, toDsM, allD, cont, partO, isAbs, optI, itemsO, noExc, rngL, atom, smallI, countB]
theorem places_list {d : PyData} (h : placesB d = true) : ∃ xs, d = .list xs := by
  cases d <;> simp only [placesB] at h <;> try (cases h; done)
  exact ⟨_, rfl⟩
theorem dec_le (n : Nat) (m : Nat) : decide ((n : Int) ≤ (m : Int)) = decide (n ≤ m) := by
  rw [Bool.eq_iff_iff]; simp
theorem dec_le8 (n : Nat) : decide ((n : Int) ≤ 8) = decide (n ≤ 8) := dec_le n 8
theorem are_premises (k : Nat) (d : PyData) (hs : ∀ xs, d = .list xs → (∀ x ∈ xs, shorts x) ∧ xs.length < 307) : run Fs (k + 4) 5 [.d d] [] = .ok (.val (.d (.bool (placesB d && lenB d)))) [] := by
  rw [run_at (fn := f_are_premises) rfl rfl]
  have e := are_places k d hs
  cases p : placesB d with
  | false =>
    rw [p] at e
    simp [f_are_premises, lim, startE, execs, exec, ev, evT, evs, evI, M.bind, M.pure, M.lift, val, datum, settle, toDM, toDwM, toD, toDw, cellAt, Vl.asD, binO, addO, cmpO, eqO_int, eqO_str, eqO_b2, inO, ltO, leO, isNone, truthO, lenO, idxO, sliceO, L2.atI, L2.ixN, bindO, bindT, bindTs, wipeE, wipes, bltO, asBools, isaO, setM, leave, exitO, callM, callIn, cellsAt, putBack, outBack, alloc, mthM, preM, toDsM, allD, cont, partO, isAbs, optI, itemsO, noExc, rngL, atom, smallI, e]
  | true =>
    rw [p] at e
    obtain ⟨xs, rfl⟩ := places_list p
    by_cases h1 : 1 ≤ xs.length
    · have h1' : (1 : Int) ≤ (xs.length : Int) := by omega
      simp [f_are_premises, lim, startE, execs, exec, ev, evT, evs, evI, M.bind, M.pure, M.lift, val, datum, settle, toDM, toDwM, toD, toDw, cellAt, Vl.asD, binO, addO, cmpO, eqO_int, eqO_str, eqO_b2, inO, ltO, leO, isNone, truthO, lenO, idxO, sliceO, L2.atI, L2.ixN, bindO, bindT, bindTs, wipeE, wipes, bltO, asBools, isaO, setM, leave, exitO, callM, callIn, cellsAt, putBack, outBack, alloc, mthM, preM, toDsM, allD, cont, partO, isAbs, optI, itemsO, noExc, rngL, atom, smallI, e, lenB, h1, h1', dec_le8]
    · have h1' : ¬ (1 : Int) ≤ (xs.length : Int) := by omega
      simp [f_are_premises, lim, startE, execs, exec, ev, evT, evs, evI, M.bind, M.pure, M.lift, val, datum, settle, toDM, toDwM, toD, toDw, cellAt, Vl.asD, binO, addO, cmpO, eqO_int, eqO_str, eqO_b2, inO, ltO, leO, isNone, truthO, lenO, idxO, sliceO, L2.atI, L2.ixN, bindO, bindT, bindTs, wipeE, wipes, bltO, asBools, isaO, setM, leave, exitO, callM, callIn, cellsAt, putBack, outBack, alloc, mthM, preM, toDsM, allD, cont, partO, isAbs, optI, itemsO, noExc, rngL, atom, smallI, e, lenB, h1, h1']
theorem Gt.len {L B N D : Nat} {x : Str} (g : Gt L B N D (.str x)) : 10 * x.length + 2 ≤ N := by simpa [Lf.cost] using g.cost
theorem Gt.short {L B N D : Nat} {d : PyData} (g : Gt L B N D d) (hN : N ≤ 10000000) : short d := by
  cases d <;> simp only [Lf.short]
  have := g.len
  exact ⟨by show _ ≤ 1000000; omega, asc_ok (by simpa [Lf.lg] using g.lg)⟩
theorem Gt.shorts {L B N D : Nat} {d : PyData} (g : Gt L B N D d) (hN : N ≤ 10000000) : shorts d := by
  cases d with
  | tuple xs => exact fun x hx => ((gt_tuple g).mem hx).short hN
  | _ => exact g.short hN
theorem is_rule {L B N D : Nat} (k : Nat) (d : PyData) (g : Gt L B N D d) (hL : L < 307) (hN : N ≤ 10000000) : run Fs (k + 5) 6 [.d d] [] = .ok (.val (.d (.bool (ruleB d)))) [] := by
  rw [run_at (fn := f_is_rule) rfl rfl]
  cases d with
  | tuple xs =>
    by_cases h : xs.length = 4
    · match xs, h with
      | [a, b, c, p], _ =>
        have gs := gt_tuple g
        have ga := (gs.mem (x := a) (by simp)).short hN
        have gb := (gs.mem (x := b) (by simp)).short hN
        have gp := gs.mem (x := p) (by simp)
        have e1 := is_name (k + 3) a ga
        have e2 := is_name (k + 3) b gb
        have e3 := is_count (k + 3) c 1
        have e4 := are_premises k p fun ys e => by
          subst e
          have q := gt_list gp
          exact ⟨fun y hy => (q.mem hy).shorts hN, Nat.lt_of_le_of_lt q.len hL⟩
        cases q1 : nameB a <;> cases q2 : nameB b <;> cases q3 : countB 1 c <;> simp [f_is_rule, lim, startE, execs, exec, ev, evT, evs, evI, M.bind, M.pure, M.lift, val, datum, settle, toDM, toDwM, toD, toDw, cellAt, Vl.asD, binO, addO, cmpO, eqO_int, eqO_str, eqO_b2, inO, ltO, leO, isNone, truthO, lenO, idxO, sliceO, L2.atI, L2.ixN, bindO, bindT, bindTs, wipeE, wipes, bltO, asBools, isaO, setM, leave, exitO, callM, callIn, cellsAt, putBack, outBack, alloc, mthM, preM, toDsM, allD, cont, partO, isAbs, optI, itemsO, noExc, rngL, atom, smallI, is_tuple_of, e1, e2, e3, e4, q1, q2, q3, ruleB]
    · have h' : ¬ (xs.length : Int) = 4 := by omega
      have e : ruleB (.tuple xs) = false := by
        unfold ruleB
        split
        · rename_i hh
          cases hh
          exact absurd rfl h
        · rfl
      simp [f_is_rule, lim, startE, execs, exec, ev, evT, evs, evI, M.bind, M.pure, M.lift, val, datum, settle, toDM, toDwM, toD, toDw, cellAt, Vl.asD, binO, addO, cmpO, eqO_int, eqO_str, eqO_b2, inO, ltO, leO, isNone, truthO, lenO, idxO, sliceO, L2.atI, L2.ixN, bindO, bindT, bindTs, wipeE, wipes, bltO, asBools, isaO, setM, leave, exitO, callM, callIn, cellsAt, putBack, outBack, alloc, mthM, preM, toDsM, allD, cont, partO, isAbs, optI, itemsO, noExc, rngL, atom, smallI, is_tuple_of, h', e]
  | _ => simp [f_is_rule, lim, startE, execs, exec, ev, evT, evs, evI, M.bind, M.pure, M.lift, val, datum, settle, toDM, toDwM, toD, toDw, cellAt, Vl.asD, binO, addO, cmpO, eqO_int, eqO_str, eqO_b2, inO, ltO, leO, isNone, truthO, lenO, idxO, sliceO, L2.atI, L2.ixN, bindO, bindT, bindTs, wipeE, wipes, bltO, asBools, isaO, setM, leave, exitO, callM, callIn, cellsAt, putBack, outBack, alloc, mthM, preM, toDsM, allD, cont, partO, isAbs, optI, itemsO, noExc, rngL, atom, smallI, is_tuple_of, ruleB]
theorem c1_world {L B N D : Nat} {k : Nat} {w0 w1 w3 w5 : Option Vl} {xs : List PyData} (g : Gs L B N D xs) (hL : L < 307) (hN : N ≤ 10000000) : ev (run Fs (k + 5)) c1_is_world [w0, w1, some (.d (.list xs)), w3, none, w5] [] = .ok (.lst (xs.map fun d => .bool (ruleB d))) [] := by
  have q := comp_pure (C := run Fs (k + 5)) (own := [4]) (t := .nm 4) (it := .x (.var 2)) (c := .cst (.bool true)) (e := .call 6 (.cons (.var 4) .nil)) (E := [w0, w1, some (.d (.list xs)), w3, none, w5]) (S := []) (S1 := []) (xs := xs) (fun _ => true) (fun d => .bool (ruleB d))
    (by simp [lim, startE, execs, exec, ev, evT, evs, evI, M.bind, M.pure, M.lift, val, datum, settle, toDM, toDwM, toD, toDw, cellAt, Vl.asD, binO, addO, cmpO, eqO_int, eqO_str, eqO_b2, inO, ltO, leO, isNone, truthO, lenO, idxO, sliceO, L2.atI, L2.ixN, bindO, bindT, bindTs, wipeE, wipes, bltO, asBools, isaO, setM, leave, exitO, callM, callIn, cellsAt, putBack, outBack, alloc, mthM, preM, toDsM, allD, cont, partO, isAbs, optI, itemsO, noExc, rngL, atom, smallI]) rfl (by have := g.len; show _ ≤ 1000000; omega) fun d hd => ⟨_, rfl, by simp [lim, startE, execs, exec, ev, evT, evs, evI, M.bind, M.pure, M.lift, val, datum, settle, toDM, toDwM, toD, toDw, cellAt, Vl.asD, binO, addO, cmpO, eqO_int, eqO_str, eqO_b2, inO, ltO, leO, isNone, truthO, lenO, idxO, sliceO, L2.atI, L2.ixN, bindO, bindT, bindTs, wipeE, wipes, bltO, asBools, isaO, setM, leave, exitO, callM, callIn, cellsAt, putBack, outBack, alloc, mthM, preM, toDsM, allD, cont, partO, isAbs, optI, itemsO, noExc, rngL, atom, smallI], fun _ => by simp [lim, startE, execs, exec, ev, evT, evs, evI, M.bind, M.pure, M.lift, val, datum, settle, toDM, toDwM, toD, toDw, cellAt, Vl.asD, binO, addO, cmpO, eqO_int, eqO_str, eqO_b2, inO, ltO, leO, isNone, truthO, lenO, idxO, sliceO, L2.atI, L2.ixN, bindO, bindT, bindTs, wipeE, wipes, bltO, asBools, isaO, setM, leave, exitO, callM, callIn, cellsAt, putBack, outBack, alloc, mthM, preM, toDsM, allD, cont, partO, isAbs, optI, itemsO, noExc, rngL, atom, smallI, is_rule k d (g.mem hd) hL hN]⟩
  rw [List.filter_eq_self.mpr fun _ _ => rfl] at q
  exact q
theorem road_place {d : PyData} (h : roadB d = true) : placeB d = true := by
  unfold roadB at h
  split at h
  · simp only [Bool.and_eq_true] at h
    simp [placeB, h.1, h.2.1]
  · cases h
theorem road_not {d : PyData} (h : placeB d = false) : roadB d = false := by
  cases q : roadB d with
  | false => rfl
  | true => rw [road_place q] at h; cases h
theorem roadB_place {d : PyData} (h : placeB d = true) : ∃ a b, d = .tuple [.str a, .str b] ∧ roadB d = decide (a.cps.toList < b.cps.toList) := by
  obtain ⟨a, b, rfl, ha, hb⟩ := place_form h
  exact ⟨a, b, rfl, by simp only [roadB, ha, hb, Bool.true_and]⟩
theorem is_road (k : Nat) (d : PyData) (hs : shorts d) : run Fs (k + 3) 7 [.d d] [] = .ok (.val (.d (.bool (roadB d)))) [] := by
  rw [run_at (fn := f_is_road) rfl rfl]
  have e := is_place k d hs
  cases p : placeB d with
  | false =>
    rw [p] at e
    rw [road_not p]
    simp [f_is_road, lim, startE, execs, exec, ev, evT, evs, evI, M.bind, M.pure, M.lift, val, datum, settle, toDM, toDwM, toD, toDw, cellAt, Vl.asD, binO, addO, cmpO, eqO_int, eqO_str, eqO_b2, inO, ltO, leO, isNone, truthO, lenO, idxO, sliceO, L2.atI, L2.ixN, bindO, bindT, bindTs, wipeE, wipes, bltO, asBools, isaO, setM, leave, exitO, callM, callIn, cellsAt, putBack, outBack, alloc, mthM, preM, toDsM, allD, cont, partO, isAbs, optI, itemsO, noExc, rngL, atom, smallI, e]
  | true =>
    rw [p] at e
    obtain ⟨a, b, rfl, r⟩ := roadB_place p
    rw [r]
    simp [f_is_road, lim, startE, execs, exec, ev, evT, evs, evI, M.bind, M.pure, M.lift, val, datum, settle, toDM, toDwM, toD, toDw, cellAt, Vl.asD, binO, addO, cmpO, eqO_int, eqO_str, eqO_b2, inO, ltO, leO, isNone, truthO, lenO, idxO, sliceO, L2.atI, L2.ixN, bindO, bindT, bindTs, wipeE, wipes, bltO, asBools, isaO, setM, leave, exitO, callM, callIn, cellsAt, putBack, outBack, alloc, mthM, preM, toDsM, allD, cont, partO, isAbs, optI, itemsO, noExc, rngL, atom, smallI, e]
theorem c0_world {L B N D : Nat} {k : Nat} {w0 w1 w2 w4 : Option Vl} {xs : List PyData} (g : Gs L B N D xs) (hL : L < 307) (hN : N ≤ 10000000) : ev (run Fs (k + 5)) c0_is_world [w0, w1, w2, some (.d (.list xs)), w4, none] [] = .ok (.lst (xs.map fun d => .bool (roadB d))) [] := by
  have q := comp_pure (C := run Fs (k + 5)) (own := [5]) (t := .nm 5) (it := .x (.var 3)) (c := .cst (.bool true)) (e := .call 7 (.cons (.var 5) .nil)) (E := [w0, w1, w2, some (.d (.list xs)), w4, none]) (S := []) (S1 := []) (xs := xs) (fun _ => true) (fun d => .bool (roadB d))
    (by simp [lim, startE, execs, exec, ev, evT, evs, evI, M.bind, M.pure, M.lift, val, datum, settle, toDM, toDwM, toD, toDw, cellAt, Vl.asD, binO, addO, cmpO, eqO_int, eqO_str, eqO_b2, inO, ltO, leO, isNone, truthO, lenO, idxO, sliceO, L2.atI, L2.ixN, bindO, bindT, bindTs, wipeE, wipes, bltO, asBools, isaO, setM, leave, exitO, callM, callIn, cellsAt, putBack, outBack, alloc, mthM, preM, toDsM, allD, cont, partO, isAbs, optI, itemsO, noExc, rngL, atom, smallI]) rfl (by have := g.len; show _ ≤ 1000000; omega) fun d hd => ⟨_, rfl, by simp [lim, startE, execs, exec, ev, evT, evs, evI, M.bind, M.pure, M.lift, val, datum, settle, toDM, toDwM, toD, toDw, cellAt, Vl.asD, binO, addO, cmpO, eqO_int, eqO_str, eqO_b2, inO, ltO, leO, isNone, truthO, lenO, idxO, sliceO, L2.atI, L2.ixN, bindO, bindT, bindTs, wipeE, wipes, bltO, asBools, isaO, setM, leave, exitO, callM, callIn, cellsAt, putBack, outBack, alloc, mthM, preM, toDsM, allD, cont, partO, isAbs, optI, itemsO, noExc, rngL, atom, smallI], fun _ => by simp [lim, startE, execs, exec, ev, evT, evs, evI, M.bind, M.pure, M.lift, val, datum, settle, toDM, toDwM, toD, toDw, cellAt, Vl.asD, binO, addO, cmpO, eqO_int, eqO_str, eqO_b2, inO, ltO, leO, isNone, truthO, lenO, idxO, sliceO, L2.atI, L2.ixN, bindO, bindT, bindTs, wipeE, wipes, bltO, asBools, isaO, setM, leave, exitO, callM, callIn, cellsAt, putBack, outBack, alloc, mthM, preM, toDsM, allD, cont, partO, isAbs, optI, itemsO, noExc, rngL, atom, smallI, is_road (k + 2) d ((g.mem hd).shorts hN)]⟩
  rw [List.filter_eq_self.mpr fun _ _ => rfl] at q
  exact q
theorem world_not {xs : List PyData} (h : xs.length ≠ 3) : worldB (.tuple xs) = false := by
  unfold worldB
  split
  · rename_i hh
    cases hh
    exact absurd rfl h
  · rfl
theorem is_world {L B N D : Nat} (k : Nat) (d : PyData) (g : Gt L B N D d) (hL : L < 307) (hN : N ≤ 10000000) : run Fs (k + 6) 8 [.d d] [] = .ok (.val (.d (.bool (worldB d)))) [] := by
  rw [run_at (fn := f_is_world) rfl rfl]
  cases d with
  | tuple xs =>
    by_cases h : xs.length = 3
    · match xs, h with
      | [v, r, o], _ =>
        have gs := gt_tuple g
        have gv := gs.mem (x := v) (by simp)
        have gr := gs.mem (x := r) (by simp)
        have go := gs.mem (x := o) (by simp)
        have e1 := are_places (k + 2) v fun ys e => by
          subst e
          have q := gt_list gv
          exact ⟨fun y hy => (q.mem hy).shorts hN, Nat.lt_of_le_of_lt q.len hL⟩
        cases q1 : placesB v with
        | false =>
          rw [q1] at e1
          simp [f_is_world, lim, startE, execs, exec, ev, evT, evs, evI, M.bind, M.pure, M.lift, val, datum, settle, toDM, toDwM, toD, toDw, cellAt, Vl.asD, binO, addO, cmpO, eqO_int, eqO_str, eqO_b2, inO, ltO, leO, isNone, truthO, lenO, idxO, sliceO, L2.atI, L2.ixN, bindO, bindT, bindTs, wipeE, wipes, bltO, asBools, isaO, setM, leave, exitO, callM, callIn, cellsAt, putBack, outBack, alloc, mthM, preM, toDsM, allD, cont, partO, isAbs, optI, itemsO, noExc, rngL, atom, smallI, is_tuple_of, e1, worldB, q1]
        | true =>
          rw [q1] at e1
          cases r with
          | list rs =>
            cases o with
            | list os =>
              have c1 := c1_world (k := k) (w0 := some (.d (.tuple [v, .list rs, .list os]))) (w1 := some (.d v)) (w3 := some (.d (.list os))) (w5 := none) (gt_list gr) hL hN
              have c0 := c0_world (k := k) (w0 := some (.d (.tuple [v, .list rs, .list os]))) (w1 := some (.d v)) (w2 := some (.d (.list rs))) (w4 := none) (gt_list go) hL hN
              cases q2 : rs.all ruleB with
              | false => simp [f_is_world, lim, startE, execs, exec, ev, evT, evs, evI, M.bind, M.pure, M.lift, val, datum, settle, toDM, toDwM, toD, toDw, cellAt, Vl.asD, binO, addO, cmpO, eqO_int, eqO_str, eqO_b2, inO, ltO, leO, isNone, truthO, lenO, idxO, sliceO, L2.atI, L2.ixN, bindO, bindT, bindTs, wipeE, wipes, bltO, asBools, isaO, setM, leave, exitO, callM, callIn, cellsAt, putBack, outBack, alloc, mthM, preM, toDsM, allD, cont, partO, isAbs, optI, itemsO, noExc, rngL, atom, smallI, is_tuple_of, e1, worldB, rulesB, q1, q2, c1, asBools_map, List.all_map, Function.comp_def]
              | true =>
                cases q3 : os.all roadB with
                | false => simp [f_is_world, lim, startE, execs, exec, ev, evT, evs, evI, M.bind, M.pure, M.lift, val, datum, settle, toDM, toDwM, toD, toDw, cellAt, Vl.asD, binO, addO, cmpO, eqO_int, eqO_str, eqO_b2, inO, ltO, leO, isNone, truthO, lenO, idxO, sliceO, L2.atI, L2.ixN, bindO, bindT, bindTs, wipeE, wipes, bltO, asBools, isaO, setM, leave, exitO, callM, callIn, cellsAt, putBack, outBack, alloc, mthM, preM, toDsM, allD, cont, partO, isAbs, optI, itemsO, noExc, rngL, atom, smallI, is_tuple_of, e1, worldB, rulesB, roadsB, q1, q2, q3, c1, c0, asBools_map, List.all_map, Function.comp_def]
                | true =>
                  have pl : os.all placeB = true := List.all_eq_true.mpr fun y hy => road_place (List.all_eq_true.mp q3 y hy)
                  obtain ⟨t1, t2⟩ := tks_places pl
                  have s2 : os.length < 307 := Nat.lt_of_le_of_lt (gt_list go).len hL
                  have e : decide (((uniq (keysL os)).length : Int) = (os.length : Int)) = decide (keysL os).Nodup := by
                    rw [Bool.eq_iff_iff, decide_eq_true_eq, decide_eq_true_eq, ← uniq_len, t2]
                    omega
                  simp [f_is_world, lim, startE, execs, exec, ev, evT, evs, evI, M.bind, M.pure, M.lift, val, datum, settle, toDM, toDwM, toD, toDw, cellAt, Vl.asD, binO, addO, cmpO, eqO_int, eqO_str, eqO_b2, inO, ltO, leO, isNone, truthO, lenO, idxO, sliceO, L2.atI, L2.ixN, bindO, bindT, bindTs, wipeE, wipes, bltO, asBools, isaO, setM, leave, exitO, callM, callIn, cellsAt, putBack, outBack, alloc, mthM, preM, toDsM, allD, cont, partO, isAbs, optI, itemsO, noExc, rngL, atom, smallI, is_tuple_of, e1, worldB, rulesB, roadsB, q1, q2, q3, c1, c0, asBools_map, List.all_map, Function.comp_def, lensO, s2, t1, e]
            | _ => simp [f_is_world, lim, startE, execs, exec, ev, evT, evs, evI, M.bind, M.pure, M.lift, val, datum, settle, toDM, toDwM, toD, toDw, cellAt, Vl.asD, binO, addO, cmpO, eqO_int, eqO_str, eqO_b2, inO, ltO, leO, isNone, truthO, lenO, idxO, sliceO, L2.atI, L2.ixN, bindO, bindT, bindTs, wipeE, wipes, bltO, asBools, isaO, setM, leave, exitO, callM, callIn, cellsAt, putBack, outBack, alloc, mthM, preM, toDsM, allD, cont, partO, isAbs, optI, itemsO, noExc, rngL, atom, smallI, is_tuple_of, e1, worldB, rulesB, roadsB, q1]
          | _ => simp [f_is_world, lim, startE, execs, exec, ev, evT, evs, evI, M.bind, M.pure, M.lift, val, datum, settle, toDM, toDwM, toD, toDw, cellAt, Vl.asD, binO, addO, cmpO, eqO_int, eqO_str, eqO_b2, inO, ltO, leO, isNone, truthO, lenO, idxO, sliceO, L2.atI, L2.ixN, bindO, bindT, bindTs, wipeE, wipes, bltO, asBools, isaO, setM, leave, exitO, callM, callIn, cellsAt, putBack, outBack, alloc, mthM, preM, toDsM, allD, cont, partO, isAbs, optI, itemsO, noExc, rngL, atom, smallI, is_tuple_of, e1, worldB, rulesB, roadsB, q1]
    · have h' : ¬ (xs.length : Int) = 3 := by omega
      simp [f_is_world, lim, startE, execs, exec, ev, evT, evs, evI, M.bind, M.pure, M.lift, val, datum, settle, toDM, toDwM, toD, toDw, cellAt, Vl.asD, binO, addO, cmpO, eqO_int, eqO_str, eqO_b2, inO, ltO, leO, isNone, truthO, lenO, idxO, sliceO, L2.atI, L2.ixN, bindO, bindT, bindTs, wipeE, wipes, bltO, asBools, isaO, setM, leave, exitO, callM, callIn, cellsAt, putBack, outBack, alloc, mthM, preM, toDsM, allD, cont, partO, isAbs, optI, itemsO, noExc, rngL, atom, smallI, is_tuple_of, h', world_not h]
  | _ => simp [f_is_world, lim, startE, execs, exec, ev, evT, evs, evI, M.bind, M.pure, M.lift, val, datum, settle, toDM, toDwM, toD, toDw, cellAt, Vl.asD, binO, addO, cmpO, eqO_int, eqO_str, eqO_b2, inO, ltO, leO, isNone, truthO, lenO, idxO, sliceO, L2.atI, L2.ixN, bindO, bindT, bindTs, wipeE, wipes, bltO, asBools, isaO, setM, leave, exitO, callM, callIn, cellsAt, putBack, outBack, alloc, mthM, preM, toDsM, allD, cont, partO, isAbs, optI, itemsO, noExc, rngL, atom, smallI, is_tuple_of, worldB]
theorem gs_list {L B N D : Nat} {xs : List PyData} (g : Gs L B N D xs) : Gt L B (N + 2) (D + 1) (.list xs) := Gt.list.mpr g
theorem gs_tuple {L B N D : Nat} {xs : List PyData} (g : Gs L B N D xs) : Gt L B (N + 3) (D + 1) (.tuple xs) := Gt.tuple.mpr g
def PotOk (n : Nat) (xs : List PyData) : Prop := ∃ a b c : Int, xs = [.int a, .int b, .int c] ∧ 0 ≤ a ∧ 0 ≤ b ∧ b < 10 ^ 50 ∧ 0 ≤ c ∧ c ≤ n
theorem fit.mono {m n : Nat} {d : PyData} (h : fit m d) (l : m ≤ n) : fit n d := ⟨h.1, h.2.1, Nat.le_trans h.2.2.1 l, h.2.2.2⟩
theorem PotOk.mono {m n : Nat} {xs : List PyData} (h : PotOk m xs) (l : m ≤ n) : PotOk n xs := by
  obtain ⟨a, b, c, e, h1, h2, h3, h4, h5⟩ := h
  exact ⟨a, b, c, e, h1, h2, h3, h4, by omega⟩
theorem world_gt {v r o : Nat} {V R O : List PyData} (gv : Gs 300 (10 ^ 30) v 3 V) (gr : Gs 300 (10 ^ 30) r 3 R) (go : Gs 300 (10 ^ 30) o 3 O) : Gt 300 (10 ^ 30) (v + r + o + 15) 5 (.tuple [.list V, .list R, .list O]) := by
  have h1 := gs_list gv
  have h2 := gs_list gr
  have h3 := gs_list go
  refine (gs_tuple (N := v + r + o + 12) (D := 4) ⟨by simp, ?_, ?_, fun x hx => ?_⟩).mono (Nat.le_refl _) (Nat.le_refl _) (by omega) (Nat.le_refl _)
  · simp only [lgs, h1.lg, h2.lg, h3.lg, Bool.and_true]
  · have c1 := h1.cost
    have c2 := h2.cost
    have c3 := h3.cost
    simp only [costs]
    omega
  · simp only [List.mem_cons, List.not_mem_nil, or_false] at hx
    rcases hx with rfl | rfl | rfl
    · exact h1.dep
    · exact h2.dep
    · exact h3.dep
theorem rule_gt {L B q r D : Nat} {a b : Str} {p : Int} {P : List PyData} (hL : 4 ≤ L) (ha : asc a = true) (hb : asc b = true) (la : a.length ≤ 8) (lb : b.length ≤ 8) (hp : p.natAbs ≤ B) (hq : cost (.int p) ≤ q) (hP : Gs L B r D P) :
    Gt L B (q + r + 180) (D + 2) (.tuple [.str a, .str b, .int p, .list P]) := by
  have g2 := gs_list hP
  have h2 := g2.lg
  have h4 := g2.cost
  have h5 := g2.dep
  refine (gs_tuple (N := q + r + 176) (D := D + 1) ⟨hL, ?_, ?_, fun x hx => ?_⟩).mono (Nat.le_refl _) (Nat.le_refl _) (by omega) (Nat.le_refl _)
  · simp only [lgs, h2, Bool.and_true]
    simp [lg, ha, hb, hp]
  · simp only [costs]
    have ca : cost (.str a) ≤ 82 := by simp only [cost]; omega
    have cb : cost (.str b) ≤ 82 := by simp only [cost]; omega
    omega
  · simp only [List.mem_cons, List.not_mem_nil, or_false] at hx
    rcases hx with rfl | rfl | rfl | rfl
    · simp [PyData.depth]
    · simp [PyData.depth]
    · simp [PyData.depth]
    · exact h5
def pairS : PyData → Bool
  | .tuple [.str a, .str b] => asc a && asc b && decide (a.length ≤ 8) && decide (b.length ≤ 8)
  | _ => false
theorem pairS_form {d : PyData} (h : pairS d = true) : ∃ a b, d = .tuple [.str a, .str b] ∧ asc a = true ∧ asc b = true ∧ a.length ≤ 8 ∧ b.length ≤ 8 := by
  unfold pairS at h
  split at h
  · simp only [Bool.and_eq_true, decide_eq_true_eq] at h
    exact ⟨_, _, rfl, h.1.1.1, h.1.1.2, h.1.2, h.2⟩
  · cases h
theorem pairS_gt {L B : Nat} {d : PyData} (h : pairS d = true) (hL : 2 ≤ L) : Gt L B 171 1 d := by
  obtain ⟨a, b, rfl, ha, hb, la, lb⟩ := pairS_form h
  refine (gs_tuple (N := 168) (D := 0) ⟨hL, ?_, ?_, fun x hx => ?_⟩)
  · simp [lgs, lg, ha, hb]
  · simp [costs, cost]; omega
  · simp at hx
    rcases hx with rfl | rfl <;> simp [PyData.depth]
theorem gs_of {L B c D m : Nat} {xs : List PyData} (h : ∀ x ∈ xs, Gt L B c D x) (hl : xs.length ≤ m) (hm : m ≤ L) : Gs L B (m * (c + 2)) D xs := by
  refine ⟨by omega, by rw [lgs_all, List.all_eq_true]; exact fun x hx => (h x hx).lg, ?_, fun x hx => (h x hx).dep⟩
  have gen : ∀ xs : List PyData, (∀ x ∈ xs, Gt L B c D x) → costs xs ≤ xs.length * (c + 2) := by
    intro xs
    induction xs with
    | nil => intro _; simp [costs]
    | cons x xs ih =>
      intro h
      have := (h x List.mem_cons_self).cost
      have := ih fun y hy => h y (List.mem_cons_of_mem _ hy)
      simp only [costs, List.length_cons, Nat.succ_mul]
      omega
  exact Nat.le_trans (gen xs h) (Nat.mul_le_mul_right _ hl)
theorem pairs_gs {L B m : Nat} {xs : List PyData} (h : ∀ x ∈ xs, pairS x = true) (hl : xs.length ≤ m) (hm : m ≤ L) (hL : 2 ≤ L) : Gs L B (m * 173) 1 xs :=
  gs_of (c := 171) (fun x hx => pairS_gt (h x hx) hL) hl hm


/-! ### worlds as they are meant -/
abbrev Pc := Str × Str
def eP (p : Pc) : PyData := .tuple [.str p.1, .str p.2]
structure Ru where
  h : Str
  s : Str
  c : Int
  ps : List Pc
def Ru.pc (r : Ru) : Pc := (r.h, r.s)
def ePs (ps : List Pc) : PyData := .list (ps.map eP)
def eR (r : Ru) : PyData := .tuple [.str r.h, .str r.s, .int r.c, ePs r.ps]
structure Wo where
  vs : List Pc
  rs : List Ru
  os : List Pc
def eW (w : Wo) : PyData := .tuple [ePs w.vs, .list (w.rs.map eR), ePs w.os]
def nmB (x : Str) : Bool := asc x && decide (x.length ≤ 8) && nameB (.str x)
structure Nm (x : Str) : Prop where
  ac : asc x = true
  len : x.length ≤ 8
  nam : nameB (.str x) = true
theorem nmB_nm {x : Str} (h : nmB x = true) : Nm x := by
  unfold nmB at h
  simp only [Bool.and_eq_true, decide_eq_true_eq] at h
  exact ⟨h.1.1, h.1.2, h.2⟩
structure PcOk (p : Pc) : Prop where
  a : Nm p.1
  b : Nm p.2
structure RuOk (r : Ru) : Prop where
  h : Nm r.h
  s : Nm r.s
  c1 : 1 ≤ r.c
  c2 : r.c ≤ 10 ^ 9
  ps : ∀ p ∈ r.ps, PcOk p
  one : r.ps.Nodup
  l1 : 1 ≤ r.ps.length
  l2 : r.ps.length ≤ 8
theorem RuOk.pc {r : Ru} (h : RuOk r) : PcOk r.pc := ⟨h.h, h.s⟩
structure WoOk (w : Wo) : Prop where
  vs : ∀ p ∈ w.vs, PcOk p
  v1 : w.vs.Nodup
  vl : w.vs.length ≤ 16
  rs : ∀ r ∈ w.rs, RuOk r
  rl : w.rs.length ≤ 60
  os : ∀ p ∈ w.os, PcOk p
  ol : ∀ p ∈ w.os, p.1.cps.toList < p.2.cps.toList
  o1 : w.os.Nodup
  on : w.os.length ≤ 16
theorem eP_mk (a b : Str) : PyData.tuple [.str a, .str b] = eP (a, b) := rfl
theorem eqv_eP (p q : Pc) : PyData.eqv (eP p) (eP q) = decide (p = q) := by
  obtain ⟨a, b⟩ := p
  obtain ⟨c, d⟩ := q
  simp only [eP, PyData.eqv, PyData.eqvAll, Bool.and_true]
  rw [Bool.eq_iff_iff]
  simp
theorem lay_eP {p : Pc} (h : PcOk p) : (eP p).canLay0 = true ∧ (eP p).depth = 1 := by
  have ha := asc_ok h.a.ac
  have hb := asc_ok h.b.ac
  simp [eP, PyData.canLay0, PyData.canLayAll0, PyData.depth, PyData.depthAll, ha, hb]
/-- data of so many storeys that can be compared -/
def Lay (n : Nat) (d : PyData) : Prop := d.canLay0 = true ∧ d.depth ≤ n
theorem Lay.shaped {n : Nat} {d : PyData} (h : Lay n d) (hn : n ≤ 40) : SeqAt.shaped d = true := by
  have := h.2
  simp only [SeqAt.shaped, h.1, Bool.true_and]
  try simp
  try omega
theorem lay_all {n : Nat} : ∀ {xs : List PyData}, (∀ x ∈ xs, Lay n x) → PyData.canLayAll0 xs = true ∧ PyData.depthAll xs ≤ n
  | [], _ => by simp [PyData.canLayAll0, PyData.depthAll]
  | x :: xs, h => by
    obtain ⟨h1, h2⟩ := lay_all fun y hy => h y (List.mem_cons_of_mem _ hy)
    obtain ⟨q1, q2⟩ := h x List.mem_cons_self
    simp only [PyData.canLayAll0, PyData.depthAll, q1, h1, Bool.and_self, true_and]
    omega
theorem Lay.list {n : Nat} {xs : List PyData} (h : ∀ x ∈ xs, Lay n x) : Lay (n + 1) (.list xs) := by
  obtain ⟨h1, h2⟩ := lay_all h
  refine ⟨by simp only [PyData.canLay0, h1], ?_⟩
  simp only [PyData.depth]; omega
theorem Lay.tuple {n : Nat} {xs : List PyData} (h : ∀ x ∈ xs, Lay n x) : Lay (n + 1) (.tuple xs) := by
  obtain ⟨h1, h2⟩ := lay_all h
  refine ⟨by simp only [PyData.canLay0, h1], ?_⟩
  simp only [PyData.depth]; omega
theorem Lay.int {n : Nat} (i : Int) : Lay n (.int i) := ⟨by simp [PyData.canLay0], by simp [PyData.depth]⟩
theorem Lay.none {n : Nat} : Lay n .none := ⟨by simp [PyData.canLay0], by simp [PyData.depth]⟩
theorem Lay.pc {p : Pc} (h : PcOk p) : Lay 1 (eP p) := ⟨(lay_eP h).1, Nat.le_of_eq (lay_eP h).2⟩
theorem Lay.pcs {ps : List Pc} (h : ∀ p ∈ ps, PcOk p) : Lay 2 (ePs ps) := Lay.list fun x hx => by
  obtain ⟨p, hp, rfl⟩ := List.mem_map.mp hx
  exact Lay.pc (h p hp)
theorem shaped_eP {p : Pc} (h : PcOk p) : SeqAt.shaped (eP p) = true := (Lay.pc h).shaped (by decide)
theorem shaped_ePs {ps : List Pc} (h : ∀ p ∈ ps, PcOk p) : SeqAt.shaped (ePs ps) = true := (Lay.pcs h).shaped (by decide)
theorem eqO_tup {xs ys : List PyData} (h1 : SeqAt.shaped (.tuple xs) = true) (h2 : SeqAt.shaped (.tuple ys) = true) : eqO (.tuple xs) (.tuple ys) = some (PyData.eqv (.tuple xs) (.tuple ys)) := by
  simp [eqO, apart, h1, h2]
theorem eqO_eP {p q : Pc} (hp : PcOk p) (hq : PcOk q) : eqO (eP p) (eP q) = some (decide (p = q)) := by
  rw [← eqv_eP]
  exact eqO_tup (shaped_eP hp) (shaped_eP hq)
theorem inO_eP {p : Pc} {ps : List Pc} (hp : PcOk p) (h : ∀ q ∈ ps, PcOk q) : inO (eP p) (ePs ps) = some (decide (p ∈ ps)) := by
  have h1 := shaped_eP hp
  have h2 := shaped_ePs h
  unfold ePs at *
  simp only [inO, h1, h2, Bool.and_self, if_true, List.any_map]
  congr 1
  rw [Bool.eq_iff_iff, List.any_eq_true, decide_eq_true_eq]
  constructor
  · rintro ⟨q, hq, e⟩
    simp only [Function.comp, eqv_eP, decide_eq_true_eq] at e
    exact e ▸ hq
  · exact fun h => ⟨p, h, by simp [eqv_eP]⟩
/-- the keys of places -/
def kP (p : Pc) : DK := .t [.inr p.1, .inr p.2]
theorem dkOf_eP (p : Pc) : dkOf (eP p) = some (kP p) := rfl
theorem kP_inj {p q : Pc} : kP p = kP q ↔ p = q := by
  obtain ⟨a, b⟩ := p
  obtain ⟨c, d⟩ := q
  simp [kP]
/-- a dict by places -/
def eD (kvs : List (Pc × PyData)) : List (PyData × PyData) := kvs.map fun p => (eP p.1, p.2)
def getP (kvs : List (Pc × PyData)) (p : Pc) : Option PyData := (kvs.find? fun q => decide (q.1 = p)).map (·.2)
theorem dictAt_eD (kvs : List (Pc × PyData)) (p : Pc) : dictAt (eD kvs) (kP p) = getP kvs p := by
  induction kvs with
  | nil => rfl
  | cons a kvs ih =>
    show (if dkOf (eP a.1) = some (kP p) then some a.2 else dictAt (eD kvs) (kP p)) = _
    rw [dkOf_eP]
    by_cases e : a.1 = p
    · simp [getP, e]
    · have e' : ¬ kP a.1 = kP p := fun z => e (kP_inj.mp z)
      simp [getP, e, e', ih]
theorem kind_eD (kvs : List (Pc × PyData)) (p : Pc) : kindB (eD kvs) (kP p) = true := by
  unfold kindB eD
  rw [List.all_map, List.all_eq_true]
  intro a _
  simp [dkOf_eP, kP, sameK]
theorem dget_eD (kvs : List (Pc × PyData)) (p : Pc) : dgetO (eD kvs) (eP p) = some (getP kvs p) := by
  unfold dgetO
  rw [dkOf_eP]
  simp only [kind_eD, Bool.true_and]
  rw [if_pos (by simp [isT, kP]), dictAt_eD]
theorem dgetE_eD (kvs : List (Pc × PyData)) (p : Pc) : dgetE (eD kvs) (eP p) = some (getP kvs p) := by
  cases kvs with
  | nil => rfl
  | cons a kvs => exact dget_eD (a :: kvs) p
def putP (kvs : List (Pc × PyData)) (p : Pc) (v : PyData) : List (Pc × PyData) :=
  if kvs.any fun q => decide (q.1 = p) then kvs.map fun q => if q.1 = p then (q.1, v) else q else kvs ++ [(p, v)]
theorem put_eD (kvs : List (Pc × PyData)) (p : Pc) (v : PyData) (h : kvs.length < lim) : putO (eD kvs) (eP p) v = some (eD (putP kvs p v)) := by
  unfold putO
  rw [dkOf_eP]
  have hl : (eD kvs).length = kvs.length := by simp [eD]
  simp only [kind_eD, Bool.true_and, hl]
  rw [if_pos (by simpa using h)]
  congr 1
  unfold dctPut putP
  have e1 : ((eD kvs).any fun q => decide (dkOf q.1 = some (kP p))) = kvs.any fun q => decide (q.1 = p) := by
    unfold eD
    rw [List.any_map]
    congr 1
    funext q
    simp [dkOf_eP, kP_inj]
  rw [e1]
  split
  · unfold eD
    rw [List.map_map, List.map_map]
    refine List.map_congr_left fun q _ => ?_
    simp only [Function.comp, dkOf_eP, Option.some.injEq, kP_inj]
    split <;> rfl
  · simp [eD]
theorem getP_some {kvs : List (Pc × PyData)} {p : Pc} {v : PyData} (h : getP kvs p = some v) : (p, v) ∈ kvs := by
  unfold getP at h
  obtain ⟨q, hq, rfl⟩ := Option.map_eq_some_iff.mp h
  have e := List.find?_some hq
  have m := List.mem_of_find?_eq_some hq
  have e : q.1 = p := by simpa using e
  rw [← e]; exact m
theorem getP_mem {kvs : List (Pc × PyData)} {p : Pc} (h : p ∈ kvs.map (·.1)) : ∃ v, getP kvs p = some v := by
  obtain ⟨q, hq, rfl⟩ := List.mem_map.mp h
  unfold getP
  cases e : kvs.find? fun r => decide (r.1 = q.1) with
  | none => exact absurd (List.find?_eq_none.mp e q hq) (by simp)
  | some r => exact ⟨r.2, rfl⟩
theorem getP_none {kvs : List (Pc × PyData)} {p : Pc} (h : p ∉ kvs.map (·.1)) : getP kvs p = none := by
  cases e : getP kvs p with
  | none => rfl
  | some v => exact absurd (List.mem_map.mpr ⟨_, getP_some e, rfl⟩) h
theorem getP_isSome (kvs : List (Pc × PyData)) (p : Pc) : (getP kvs p).isSome = decide (p ∈ kvs.map (·.1)) := by
  by_cases h : p ∈ kvs.map (·.1)
  · obtain ⟨v, e⟩ := getP_mem h
    rw [e, decide_eq_true h]; rfl
  · rw [getP_none h, decide_eq_false h]; rfl
theorem putP_mem {kvs : List (Pc × PyData)} {p : Pc} {v : PyData} {q : Pc × PyData} (h : q ∈ putP kvs p v) : q ∈ kvs ∨ q = (p, v) := by
  unfold putP at h
  split at h
  · obtain ⟨r, hr, rfl⟩ := List.mem_map.mp h
    split
    · rename_i e; exact .inr (by rw [e])
    · exact .inl hr
  · rcases List.mem_append.mp h with h | h
    · exact .inl h
    · exact .inr (List.mem_singleton.mp h)
theorem putP_keys {kvs : List (Pc × PyData)} {p : Pc} {v : PyData} : (∀ q ∈ kvs.map (·.1), q ∈ (putP kvs p v).map (·.1)) ∧ (putP kvs p v).length ≤ kvs.length + 1 := by
  unfold putP
  split
  · refine ⟨fun q hq => ?_, by simp⟩
    obtain ⟨r, hr, rfl⟩ := List.mem_map.mp hq
    refine List.mem_map.mpr ⟨_, List.mem_map.mpr ⟨r, hr, rfl⟩, ?_⟩
    split <;> rfl
  · refine ⟨fun q hq => ?_, by simp⟩
    rw [List.map_append]
    exact List.mem_append_left _ hq
theorem putP_new {kvs : List (Pc × PyData)} {p : Pc} {v : PyData} (h : p ∉ kvs.map (·.1)) : putP kvs p v = kvs ++ [(p, v)] := by
  unfold putP
  rw [if_neg]
  intro z
  obtain ⟨q, hq, e⟩ := List.any_eq_true.mp z
  exact h (List.mem_map.mpr ⟨q, hq, of_decide_eq_true e⟩)
/-! the world is one -/
theorem placeB_eP {p : Pc} (h : PcOk p) : placeB (eP p) = true := by simp [placeB, eP, h.a.nam, h.b.nam]
theorem pairS_eP {p : Pc} (h : PcOk p) : pairS (eP p) = true := by simp [pairS, eP, h.a.ac, h.b.ac, h.a.len, h.b.len]
theorem keysL_eP : ∀ ps : List Pc, tksOf (ps.map eP) = some (ps.map fun p => [.inr p.1, .inr p.2])
  | [] => rfl
  | p :: ps => by
    show tksOf (.tuple [.str p.1, .str p.2] :: ps.map eP) = _
    rw [tks_cons, keysL_eP ps]; rfl
theorem placesB_eP {ps : List Pc} (h : ∀ p ∈ ps, PcOk p) (n : ps.Nodup) : placesB (ePs ps) = true := by
  unfold ePs placesB
  rw [Bool.and_eq_true, decide_eq_true_eq, List.all_eq_true]
  refine ⟨fun x hx => ?_, ?_⟩
  · obtain ⟨p, hp, rfl⟩ := List.mem_map.mp hx
    exact placeB_eP (h p hp)
  · unfold keysL
    rw [keysL_eP]
    show (ps.map _).Nodup
    rw [List.nodup_iff_pairwise_ne, List.pairwise_map]
    refine (List.nodup_iff_pairwise_ne.mp n).imp fun {a b} ne e => ne ?_
    simp at e
    exact Prod.ext e.1 e.2
theorem ruleB_eR {r : Ru} (h : RuOk r) : ruleB (eR r) = true := by
  have hp := placesB_eP h.ps h.one
  have hc := h.c1
  have h1 := h.l1
  have h2 := h.l2
  unfold ePs at hp
  simp [ruleB, eR, h.h.nam, h.s.nam, ePs, hp, countB, hc, lenB, h1, h2]
theorem roadB_eP {p : Pc} (h : PcOk p) (l : p.1.cps.toList < p.2.cps.toList) : roadB (eP p) = true := by
  obtain ⟨a, b, e, q⟩ := roadB_place (placeB_eP h)
  rw [q, decide_eq_true_eq]
  have : a = p.1 ∧ b = p.2 := by simpa [eP] using e.symm
  rw [this.1, this.2]; exact l
theorem pcs_gs {ps : List Pc} {m : Nat} (h : ∀ p ∈ ps, PcOk p) (l : ps.length ≤ m) (hm : m ≤ 300) : Gs 300 (10 ^ 30) (m * 173) 1 (ps.map eP) :=
  pairs_gs (fun x hx => by
    obtain ⟨p, hp, rfl⟩ := List.mem_map.mp hx
    exact pairS_eP (h p hp)) (by simpa using l) hm (by decide)
theorem rule_eR {r : Ru} (h : RuOk r) : Gt 300 (10 ^ 30) 1700 3 (eR r) := by
  have h1 := h.c1
  have h2 := h.c2
  have pc : cost (.int r.c) ≤ 61 := (Gt.int (L := 300) (N := 61) (D := 0) (B := 10 ^ 30) (by omega) (by decide) (Nat.le_refl _)).cost
  exact (rule_gt (L := 300) (B := 10 ^ 30) (by decide) h.h.ac h.s.ac h.h.len h.s.len (by omega) pc (pcs_gs (m := 8) h.ps h.l2 (by decide))).mono (Nat.le_refl _) (Nat.le_refl _) (by decide) (by decide)
theorem world_eW {w : Wo} (h : WoOk w) : Gt 300 (10 ^ 30) 110000 5 (eW w) := by
  have gr : Gs 300 (10 ^ 30) (60 * 1702) 3 (w.rs.map eR) := gs_of (c := 1700) (fun x hx => by
    obtain ⟨r, hr, rfl⟩ := List.mem_map.mp hx
    exact rule_eR (h.rs r hr)) (by simpa using h.rl) (by decide)
  exact (world_gt ((pcs_gs (m := 16) h.vs h.vl (by decide)).mono (Nat.le_refl _) (Nat.le_refl _) (Nat.le_refl _) (by decide)) gr ((pcs_gs (m := 16) h.os h.on (by decide)).mono (Nat.le_refl _) (Nat.le_refl _) (Nat.le_refl _) (by decide))).mono (Nat.le_refl _) (Nat.le_refl _) (by decide) (Nat.le_refl _)
theorem worldB_eW {w : Wo} (h : WoOk w) : worldB (eW w) = true := by
  have h1 := placesB_eP h.vs h.v1
  have h2 := placesB_eP h.os h.o1
  have h3 : (w.rs.map eR).all ruleB = true := List.all_eq_true.mpr fun x hx => by
    obtain ⟨r, hr, rfl⟩ := List.mem_map.mp hx
    exact ruleB_eR (h.rs r hr)
  have h4 : (w.os.map eP).all roadB = true := List.all_eq_true.mpr fun x hx => by
    obtain ⟨p, hp, rfl⟩ := List.mem_map.mp hx
    exact roadB_eP (h.os p hp) (h.ol p hp)
  have h5 : (keysL (w.os.map eP)).Nodup := by
    unfold ePs placesB at h2
    rw [Bool.and_eq_true, decide_eq_true_eq] at h2
    exact h2.2
  unfold ePs at h1
  simp [worldB, eW, ePs, h1, rulesB, h3, roadsB, h4, h5]
theorem is_world_eW (k : Nat) {w : Wo} (h : WoOk w) : run Fs (k + 6) 8 [.d (eW w)] [] = .ok (.val (.d (.bool true))) [] := by
  have := is_world k (eW w) (world_eW h) (by decide) (by decide)
  rw [worldB_eW h] at this
  exact this
theorem is_place_eP (k : Nat) {p : Pc} (h : PcOk p) : run Fs (k + 2) 3 [.d (eP p)] [] = .ok (.val (.d (.bool true))) [] := by
  have := is_place k (eP p) (fun x hx => by
    simp at hx
    have ha := h.a.len
    have hb := h.b.len
    rcases hx with rfl | rfl
    · exact ⟨by show _ ≤ 1000000; omega, asc_ok h.a.ac⟩
    · exact ⟨by show _ ≤ 1000000; omega, asc_ok h.b.ac⟩)
  rw [placeB_eP h] at this
  exact this

end Lf

set_option Elab.async false
set_option linter.all false
set_option maxRecDepth 100000
set_option maxHeartbeats 4000000
set_option exponentiation.threshold 4000
namespace Lf
open PySem PySem.Spec PyProof.Rows L2
/-! ### comprehensions over things that are meant -/
theorem comprL_ty {α : Type} {enc : α → PyData} {bnd : PyData → Option Env} {c : Env → M Bool} {e : Env → M PyData} {p : α → Bool} {g : α → PyData} {S : Store} : ∀ (xs : List α) (acc : List PyData), acc.length + xs.length ≤ lim →
    (∀ x ∈ xs, ∃ E1, bnd (enc x) = some E1 ∧ c E1 S = .ok (p x) S ∧ (p x = true → e E1 S = .ok (g x) S)) → comprL bnd c e (xs.map enc) acc S = .ok (acc ++ (xs.filter p).map g) S
  | [], acc, _, _ => by unfold comprL; simp; rfl
  | x :: xs, acc, hl, h => by
    obtain ⟨E1, e1, e2, e3⟩ := h x List.mem_cons_self
    rw [List.map_cons]
    unfold comprL
    rw [bind_ok (a := E1) (s' := S) (by rw [e1]; rfl), bind_ok e2]
    simp only [List.length_cons] at hl
    cases q : p x with
    | true =>
      rw [if_pos rfl, bind_ok (e3 q), if_pos (by omega), comprL_ty xs (acc ++ [g x]) (by simp; omega) fun y hy => h y (List.mem_cons_of_mem _ hy)]
      rw [List.filter_cons_of_pos q]; simp
    | false =>
      rw [if_neg (by decide), comprL_ty xs acc (by omega) fun y hy => h y (List.mem_cons_of_mem _ hy)]
      rw [List.filter_cons_of_neg (by rw [q]; decide)]
theorem comp_ty {α : Type} {enc : α → PyData} {C : CallT} {own : List Nat} {t : Tg} {it : Ir} {c e : Ex} {E : Env} {S S1 : Store} {xs : List α} (p : α → Bool) (g : α → PyData) (h1 : evI C it E S = .ok (xs.map enc) S1) (hw : wipes own t = true) (hl : xs.length ≤ lim)
    (h : ∀ x ∈ xs, ∃ E1, bindT t (enc x) (wipeE E own) = some E1 ∧ evT C c E1 S1 = .ok (p x) S1 ∧ (p x = true → ev C e E1 S1 = .ok (.val (.d (g x))) S1)) : ev C (.comp own t it c e) E S = .ok (.lst ((xs.filter p).map g)) S1 := by
  have q := comprL_ty (enc := enc) (bnd := fun x => bindT t x (wipeE E own)) (c := fun E => evT C c E) (e := fun E => datum (ev C e E)) (p := p) (g := g) (S := S1) xs [] (by simpa using hl) fun x hx => by
    obtain ⟨E1, e1, e2, e3⟩ := h x hx
    refine ⟨E1, e1, e2, fun z => ?_⟩
    show datum (ev C e E1) S1 = _
    unfold datum
    rw [bind_ok (e3 z)]
    rfl
  rw [List.nil_append] at q
  exact ev_comp h1 hw q
/-- .. all of them -/
theorem comp_all {α : Type} {enc : α → PyData} {C : CallT} {own : List Nat} {t : Tg} {it : Ir} {e : Ex} {E : Env} {S S1 : Store} {xs : List α} (g : α → PyData) (h1 : evI C it E S = .ok (xs.map enc) S1) (hw : wipes own t = true) (hl : xs.length ≤ lim)
    (h : ∀ x ∈ xs, ∃ E1, bindT t (enc x) (wipeE E own) = some E1 ∧ ev C e E1 S1 = .ok (.val (.d (g x))) S1) : ev C (.comp own t it (.cst (.bool true)) e) E S = .ok (.lst (xs.map g)) S1 := by
  have q := comp_ty (enc := enc) (C := C) (own := own) (t := t) (it := it) (c := .cst (.bool true)) (e := e) (E := E) (fun _ => true) g h1 hw hl fun x hx => by
    obtain ⟨E1, e1, e2⟩ := h x hx
    exact ⟨E1, e1, rfl, fun _ => e2⟩
  rw [List.filter_eq_self.mpr fun _ _ => rfl] at q
  exact q
theorem asBools_ty {α : Type} (l : List α) (f : α → Bool) : asBools (l.map fun d => .bool (f d)) = some (l.map f) := by
  induction l with
  | nil => rfl
  | cons a l ih => simp [asBools, ih]
/-! ### what is near, what lives -/
def mn (x y : Str) : Str := if y.cps.toList < x.cps.toList then y else x
def mx (x y : Str) : Str := if x.cps.toList < y.cps.toList then y else x
theorem bmin (x y : Str) : bltO .min2 [.str x, .str y] = some (.val (.d (.str (mn x y)))) := rfl
theorem bmax (x y : Str) : bltO .max2 [.str x, .str y] = some (.val (.d (.str (mx x y)))) := rfl
theorem mn_nm {x y : Str} (hx : Nm x) (hy : Nm y) : Nm (mn x y) := by unfold mn; split <;> assumption
theorem mx_nm {x y : Str} (hx : Nm x) (hy : Nm y) : Nm (mx x y) := by unfold mx; split <;> assumption
def nearB (os : List Pc) (h o : Str) : Bool := decide (h = o) || decide ((mn h o, mx h o) ∈ os)
def allNear (os : List Pc) (r : Ru) : Bool := r.ps.all fun p => nearB os r.h p.1
def liv (os : List Pc) : Nat → List Ru → List (Nat × Ru)
  | _, [] => []
  | n, r :: rs => (if allNear os r then [(n, r)] else []) ++ liv os (n + 1) rs
theorem liv_app (os : List Pc) : ∀ (xs : List Ru) (n : Nat) (r : Ru), liv os n (xs ++ [r]) = liv os n xs ++ (if allNear os r then [(n + xs.length, r)] else [])
  | [], n, r => by simp [liv]
  | x :: xs, n, r => by
    rw [List.cons_append]
    simp only [liv, List.length_cons]
    rw [liv_app os xs (n + 1) r, List.append_assoc, show n + 1 + xs.length = n + (xs.length + 1) by omega]
theorem liv_take {os : List Pc} {rs : List Ru} {j : Nat} {r : Ru} (h : rs[j]? = some r) : liv os 0 (rs.take (j + 1)) = liv os 0 (rs.take j) ++ (if allNear os r then [(j, r)] else []) := by
  have hj := (List.getElem?_eq_some_iff.mp h).1
  rw [List.take_succ, h]
  show liv os 0 (rs.take j ++ [r]) = _
  rw [liv_app, List.length_take, Nat.min_eq_left (Nat.le_of_lt hj), Nat.zero_add]
theorem liv_at {os : List Pc} : ∀ {rs : List Ru} {n : Nat} {e : Nat × Ru}, e ∈ liv os n rs → n ≤ e.1 ∧ rs[e.1 - n]? = some e.2
  | r :: rs, n, e, h => by
    simp only [liv] at h
    rcases List.mem_append.mp h with h | h
    · split at h
      · rw [List.mem_singleton.mp h]
        exact ⟨Nat.le_refl _, by simp⟩
      · cases h
    · obtain ⟨h1, h2⟩ := liv_at h
      refine ⟨by omega, ?_⟩
      rw [show e.1 - n = (e.1 - (n + 1)) + 1 by omega]
      simpa using h2
theorem liv_len {os : List Pc} : ∀ {rs : List Ru} {n : Nat}, (liv os n rs).length ≤ rs.length
  | [], _ => Nat.le_refl _
  | r :: rs, n => by
    have := liv_len (os := os) (rs := rs) (n := n + 1)
    simp only [liv, List.length_append, List.length_cons]
    split <;> simp <;> omega
theorem liv_mem {os : List Pc} {rs : List Ru} {n : Nat} {e : Nat × Ru} (h : e ∈ liv os n rs) : e.2 ∈ rs := List.mem_of_getElem? (liv_at h).2
/-- each number once -/
theorem liv_one {os : List Pc} : ∀ {rs : List Ru} {n : Nat}, ((liv os n rs).map (·.1)).Nodup
  | [], _ => .nil
  | r :: rs, n => by
    have ih := liv_one (os := os) (rs := rs) (n := n + 1)
    simp only [liv, List.map_append]
    split
    · simp only [List.map_cons, List.map_nil, List.singleton_append]
      refine List.nodup_cons.mpr ⟨fun z => ?_, ih⟩
      obtain ⟨e, he, q⟩ := List.mem_map.mp z
      have := (liv_at he).1
      omega
    · simpa using ih
def eL (e : Nat × Ru) : PyData := .tuple [.int e.1, eP e.2.pc, .int e.2.c, ePs e.2.ps]
theorem is_near (k : Nat) (os : List Pc) (h o : Str) (hs : ∀ p ∈ os, PcOk p) (hh : Nm h) (ho : Nm o) : run Fs (k + 1) 10 [.d (ePs os), .d (.str h), .d (.str o)] [] = .ok (.val (.d (.bool (nearB os h o)))) [] := by
  rw [run_at (fn := f_is_near) rfl rfl]
  have e := inO_eP (p := (mn h o, mx h o)) ⟨mn_nm hh ho, mx_nm hh ho⟩ hs
  by_cases c : h = o
  · simp [f_is_near, lim, startE, execs, exec, ev, evT, evs, evI, M.bind, M.pure, M.lift, val, datum, settle, toDM, toDwM, toD, toDw, cellAt, Vl.asD, binO, addO, cmpO, eqO_int, eqO_str, eqO_b2, ltO, leO, isNone, truthO, lenO, idxO, sliceO, bindO, bindT, bindTs, wipeE, wipes, asBools, isaO, setM, leave, exitO, callM, callIn, cellsAt, putBack, outBack, alloc, mthM, preM, toDsM, allD, cont, partO, isAbs, optI, itemsO, noExc, atom, smallI, c, nearB]
  · simp [f_is_near, lim, startE, execs, exec, ev, evT, evs, evI, M.bind, M.pure, M.lift, val, datum, settle, toDM, toDwM, toD, toDw, cellAt, Vl.asD, binO, addO, cmpO, eqO_int, eqO_str, eqO_b2, ltO, leO, isNone, truthO, lenO, idxO, sliceO, bindO, bindT, bindTs, wipeE, wipes, asBools, isaO, setM, leave, exitO, callM, callIn, cellsAt, putBack, outBack, alloc, mthM, preM, toDsM, allD, cont, partO, isAbs, optI, itemsO, noExc, atom, smallI, bmin, bmax, eP_mk, e, c, nearB]
theorem c0_liv {k : Nat} {os ps : List Pc} {h : Str} {w0 w1 w2 w4 w5 w7 w8 w10 w11 : Option Vl} {S : Store} (hs : ∀ p ∈ os, PcOk p) (hh : Nm h) (hp : ∀ p ∈ ps, PcOk p) (hl : ps.length ≤ 1000) :
    ev (run Fs (k + 1)) c0_living [w0, w1, w2, some (.d (ePs os)), w4, w5, some (.d (.str h)), w7, w8, some (.d (ePs ps)), w10, w11] S = .ok (.lst (ps.map fun p => .bool (nearB os h p.1))) S := by
  refine comp_all (enc := eP) (fun p => .bool (nearB os h p.1)) (by simp [lim, startE, execs, exec, ev, evT, evs, evI, M.bind, M.pure, M.lift, val, datum, settle, toDM, toDwM, toD, toDw, cellAt, Vl.asD, binO, addO, cmpO, eqO_int, eqO_str, eqO_b2, ltO, leO, isNone, truthO, lenO, idxO, sliceO, bindO, bindT, bindTs, wipeE, wipes, bltO, asBools, isaO, setM, leave, exitO, callM, callIn, cellsAt, putBack, outBack, alloc, mthM, preM, toDsM, allD, cont, partO, isAbs, optI, itemsO, noExc, atom, smallI, ePs]) rfl (by show _ ≤ 1000000; omega) fun p hm => ⟨_, rfl, ?_⟩
  simp [lim, startE, execs, exec, ev, evT, evs, evI, M.bind, M.pure, M.lift, val, datum, settle, toDM, toDwM, toD, toDw, cellAt, Vl.asD, binO, addO, cmpO, eqO_int, eqO_str, eqO_b2, ltO, leO, isNone, truthO, lenO, idxO, sliceO, bindO, bindT, bindTs, wipeE, wipes, bltO, asBools, isaO, setM, leave, exitO, callM, callIn, cellsAt, putBack, outBack, alloc, mthM, preM, toDsM, allD, cont, partO, isAbs, optI, itemsO, noExc, atom, smallI, is_near k os h p.1 hs hh (hp p hm).a]
theorem living_loop (k : Nat) (w : Wo) (ok : WoOk w) :
    ∃ v5 v6 v7 v8 v9, exec (run Fs (k + 1)) l2_living [some (.d (eW w)), some (.d (ePs w.vs)), some (.d (.list (w.rs.map eR))), some (.d (ePs w.os)), some (.ref 0), none, none, none, none, none, none, none] [some (.lst [])] =
      .ok (.nx, [some (.d (eW w)), some (.d (ePs w.vs)), some (.d (.list (w.rs.map eR))), some (.d (ePs w.os)), some (.ref 0), v5, v6, v7, v8, v9, none, none]) [some (.lst ((liv w.os 0 w.rs).map eL))] := by
  obtain ⟨E', S', e3, v5, v6, v7, v8, v9, rfl, rfl⟩ := loopL_inv (bnd := fun x E => bindT (.tp (.cons (.nm 5) (.cons (.tp (.cons (.nm 6) (.cons (.nm 7) (.cons (.nm 8) (.cons (.nm 9) .nil))))) .nil))) x E) (b := fun E => execs (run Fs (k + 1)) b1_living E)
    (fun j E S => ∃ v5 v6 v7 v8 v9, E = [some (.d (eW w)), some (.d (ePs w.vs)), some (.d (.list (w.rs.map eR))), some (.d (ePs w.os)), some (.ref 0), v5, v6, v7, v8, v9, none, none] ∧ S = [some (.lst ((liv w.os 0 (w.rs.take j)).map eL))]) (enumL 0 (w.rs.map eR)) 0 _ [some (.lst [])]
    ⟨none, none, none, none, none, rfl, by simp [liv]⟩ fun j E S x _ hx ⟨v5, v6, v7, v8, v9, hE, hS⟩ => by
      subst hE hS
      obtain ⟨y, hy, rfl⟩ := enum_at _ _ _ _ (by simpa using hx)
      rw [List.getElem?_map, Option.map_eq_some_iff] at hy
      obtain ⟨r, hr, rfl⟩ := hy
      have rm := List.mem_of_getElem? hr
      have rok := ok.rs r rm
      have c := fun w0 w1 w2 w4 w5 w7 w8 w10 w11 S => c0_liv (k := k) (w0 := w0) (w1 := w1) (w2 := w2) (w4 := w4) (w5 := w5) (w7 := w7) (w8 := w8) (w10 := w10) (w11 := w11) (S := S) ok.os rok.h rok.ps (by have := rok.l2; omega)
      have hl : (liv w.os 0 (w.rs.take j)).length < 1000000 := by
        have h1 := liv_len (os := w.os) (rs := w.rs.take j) (n := 0)
        rw [List.length_take] at h1
        have := ok.rl
        omega
      refine ⟨[some (.d (eW w)), some (.d (ePs w.vs)), some (.d (.list (w.rs.map eR))), some (.d (ePs w.os)), some (.ref 0), some (.d (.int ((0 + j : Nat) : Int))), some (.d (.str r.h)), some (.d (.str r.s)), some (.d (.int r.c)), some (.d (ePs r.ps)), none, none], (.nx, [some (.d (eW w)), some (.d (ePs w.vs)), some (.d (.list (w.rs.map eR))), some (.d (ePs w.os)), some (.ref 0), some (.d (.int ((0 + j : Nat) : Int))), some (.d (.str r.h)), some (.d (.str r.s)), some (.d (.int r.c)), some (.d (ePs r.ps)), none, none]), _, rfl, ?_, .inl rfl, _, _, _, _, _, rfl, rfl⟩
      rw [liv_take hr]
      cases q : allNear w.os r with
      | true =>
        have q' : (r.ps.map fun p => nearB w.os r.h p.1).all id = true := by rw [← q]; unfold allNear; rw [List.all_map]; rfl
        have el : PyData.tuple [.int (j : Int), eP (r.h, r.s), .int r.c, ePs r.ps] = eL (j, r) := rfl
        simp only [b1_living, execs, exec, evT, evs, M.bind, M.pure, c, val, settle, toDsM, toDM, toD, bltO, asBools_ty, Option.map, M.lift, q', truthO, if_pos]
        simp [lim, startE, execs, exec, ev, evT, evs, evI, M.bind, M.pure, M.lift, val, datum, settle, toDM, toDwM, toD, toDw, cellAt, Vl.asD, binO, addO, cmpO, eqO_int, eqO_str, eqO_b2, ltO, leO, isNone, truthO, lenO, idxO, sliceO, bindO, bindT, bindTs, wipeE, wipes, bltO, asBools, isaO, setM, leave, exitO, callM, callIn, cellsAt, putBack, outBack, alloc, mthM, preM, toDsM, allD, cont, partO, isAbs, optI, itemsO, noExc, atom, smallI, hl, eP_mk, el]
      | false =>
        have q' : (r.ps.map fun p => nearB w.os r.h p.1).all id = false := by rw [← q]; unfold allNear; rw [List.all_map]; rfl
        simp only [b1_living, execs, exec, evT, evs, M.bind, M.pure, c, val, settle, toDsM, toDM, toD, bltO, asBools_ty, Option.map, M.lift, q', truthO]
        simp [M.pure]
  refine ⟨v5, v6, v7, v8, v9, ?_⟩
  have el : (w.rs.take (0 + (enumL 0 (w.rs.map eR)).length)) = w.rs := by rw [enum_len]; simp
  rw [el] at e3
  exact exec_loop (xs := enumL 0 (w.rs.map eR)) (S1 := [some (.lst [])]) (by simp [lim, startE, execs, exec, ev, evT, evs, evI, M.bind, M.pure, M.lift, val, datum, settle, toDM, toDwM, toD, toDw, cellAt, Vl.asD, binO, addO, cmpO, eqO_int, eqO_str, eqO_b2, ltO, leO, isNone, truthO, lenO, idxO, sliceO, bindO, bindT, bindTs, wipeE, wipes, bltO, asBools, isaO, setM, leave, exitO, callM, callIn, cellsAt, putBack, outBack, alloc, mthM, preM, toDsM, allD, cont, partO, isAbs, optI, itemsO, noExc, atom, smallI]) e3
theorem bind_eW (ts : Tgs) (w : Wo) (E : Env) : bindO (.tp ts) (.val (.d (eW w))) E = bindTs ts [ePs w.vs, .list (w.rs.map eR), ePs w.os] E := rfl
theorem living (k : Nat) (w : Wo) (ok : WoOk w) : run Fs (k + 2) 11 [.d (eW w)] [] = .ok (.lst ((liv w.os 0 w.rs).map eL)) [] := by
  obtain ⟨v5, v6, v7, v8, v9, e⟩ := living_loop k w ok
  rw [run_at (fn := f_living) rfl rfl]
  simp [f_living, lim, startE, execs, exec, ev, evT, evs, evI, M.bind, M.pure, M.lift, val, datum, settle, toDM, toDwM, toD, toDw, cellAt, Vl.asD, binO, addO, cmpO, eqO_int, eqO_str, eqO_b2, ltO, leO, isNone, truthO, lenO, idxO, sliceO, bindT, bindTs, wipeE, wipes, bltO, asBools, isaO, setM, leave, exitO, callM, callIn, cellsAt, putBack, outBack, alloc, mthM, preM, toDsM, allD, cont, partO, isAbs, optI, itemsO, noExc, atom, smallI, bindO.eq_1, bind_eW, e]

/-! ### parts of what is meant -/
def eRow (q : Pc × Int) : PyData := .tuple [eP q.1, .int q.2]
theorem all_true {α : Type} (l : List α) : (l.map fun _ => true).all id = true := by simp
theorem inO_dict (kvs : List (Pc × PyData)) (p : Pc) : inO (eP p) (.dict (eD kvs)) = some (decide (p ∈ kvs.map (·.1))) := by
  show (dgetE (eD kvs) (eP p)).map (·.isSome) = _
  rw [dgetE_eD, ← getP_isSome]; rfl
theorem at_last {α : Type} (xs : List α) (h : xs ≠ []) : L2.atI xs (-1) = some (xs.getLast h) := by
  have pos : 0 < xs.length := List.length_pos_iff.mpr h
  have e : ((-1 : Int) + (xs.length : Int)).toNat = xs.length - 1 := by omega
  unfold L2.atI L2.ixN
  rw [if_neg (by decide), if_pos (by omega), e, List.getLast_eq_getElem]
  show xs[xs.length - 1]? = _
  exact List.getElem?_eq_getElem (by omega)
theorem loop_nx {bnd : PyData → Env → Option Env} {b : Env → M (Fl × Env)} {x : PyData} {xs : List PyData} {E E1 E2 : Env} {S S2 : Store} (h : bnd x E = some E1) (e : b E1 S = .ok (.nx, E2) S2) : loopL bnd b (x :: xs) E S = loopL bnd b xs E2 S2 := by
  conv => lhs; unfold loopL
  rw [bind_ok (a := E1) (s' := S) (by rw [h]; rfl), bind_ok e]
theorem loop_rt {bnd : PyData → Env → Option Env} {b : Env → M (Fl × Env)} {x : PyData} {xs : List PyData} {E E1 E2 : Env} {S S2 : Store} {o : Out} (h : bnd x E = some E1) (e : b E1 S = .ok (.rt o, E2) S2) : loopL bnd b (x :: xs) E S = .ok (.rt o, E2) S2 := by
  conv => lhs; unfold loopL
  rw [bind_ok (a := E1) (s' := S) (by rw [h]; rfl), bind_ok e]
  rfl
theorem idx_eW0 (w : Wo) : idxO (eW w) (.int 0) = some (ePs w.vs) := rfl
theorem idx_eW1 (w : Wo) : idxO (eW w) (.int 1) = some (.list (w.rs.map eR)) := rfl
theorem idx_eW2 (w : Wo) : idxO (eW w) (.int 2) = some (ePs w.os) := rfl
theorem idx_eL0 (e : Nat × Ru) : idxO (eL e) (.int 0) = some (.int e.1) := rfl
theorem idx_eL1 (e : Nat × Ru) : idxO (eL e) (.int 1) = some (eP e.2.pc) := rfl
theorem idx_eL2 (e : Nat × Ru) : idxO (eL e) (.int 2) = some (.int e.2.c) := rfl
theorem idx_eL3 (e : Nat × Ru) : idxO (eL e) (.int 3) = some (ePs e.2.ps) := rfl
theorem idx_eR3 (r : Ru) : idxO (eR r) (.int 3) = some (ePs r.ps) := rfl
theorem idx_eRow (q : Pc × Int) : idxO (eRow q) (.int 0) = some (eP q.1) := rfl
theorem idx_cons0 (x : PyData) (xs : List PyData) : idxO (.list (x :: xs)) (.int 0) = some x := by simp [idxO, L2.atI, L2.ixN]
theorem cut_eR (r : Ru) : sliceO (eR r) none (some 2) = some (.val (.d (eP r.pc))) := rfl
theorem cut_last {α : Type} (xs : List α) : cutL xs (some (-1)) none = xs.drop (xs.length - 1) := by
  unfold cutL
  have e1 : HT.sIx xs.length 0 (some (-1)) = xs.length - 1 := by
    show (if (-1 : Int) < 0 then ((-1 : Int) + (xs.length : Int)).toNat else min (-1 : Int).toNat xs.length) = _
    rw [if_pos (by decide)]; omega
  have e2 : HT.sIx xs.length xs.length none = xs.length := rfl
  rw [e1, e2]
  exact List.take_of_length_le (by rw [List.length_drop]; omega)
theorem need_world (k : Nat) {w : Wo} (ok : WoOk w) : run Fs (k + 7) 9 [.d (eW w)] [] = .ok (.val (.d .none)) [] := by
  have e := is_world_eW k ok
  rw [run_at (fn := f_need_world) rfl rfl]
  simp [f_need_world, lim, startE, execs, exec, ev, evT, evs, evI, M.bind, M.pure, M.lift, val, datum, settle, toDM, toDwM, toD, toDw, cellAt, Vl.asD, binO, addO, cmpO, eqO_int, eqO_str, eqO_b2, ltO, leO, isNone, truthO, lenO, idxO, sliceO, bindO, bindT, bindTs, wipeE, wipes, bltO, asBools, isaO, setM, leave, exitO, callM, callIn, cellsAt, putBack, outBack, alloc, mthM, preM, toDsM, allD, cont, partO, isAbs, optI, itemsO, noExc, atom, smallI, e]
theorem evI_rng {C : CallT} {a : Ex} {E : Env} {S S1 : Store} {i : Int} {xs : List PyData} (h : ev C a E S = .ok (.val (.d (.int i))) S1) (hi : rngL 0 i = some xs) : evI C (.rng a) E S = .ok xs S1 := by
  unfold evI datum
  simp only [M.bind, h, M.lift, M.pure, settle, Vl.asD, hi]
theorem ex_cons {C : CallT} {s : Sm} {ss : Sms} {E E1 : Env} {S S1 : Store} (h : exec C s E S = .ok (.nx, E1) S1) : execs C (.cons s ss) E S = execs C ss E1 S1 := by
  simp only [execs]
  rw [bind_ok h]

/-! ### heights -/
theorem filter_no {α : Type} {l : List α} {p : α → Bool} : (l.filter fun d => !p d).isEmpty = l.all p := by
  induction l with
  | nil => rfl
  | cons a l ih =>
    cases h : p a with
    | true => rw [List.filter_cons_of_neg (by simp [h]), ih]; simp [h]
    | false => rw [List.filter_cons_of_pos (by simp [h])]; simp [h]
def eH (H : List (Pc × Int)) : List (PyData × PyData) := eD (H.map fun q => (q.1, .int q.2))
def getH (H : List (Pc × Int)) (p : Pc) : Option Int := (H.find? fun q => decide (q.1 = p)).map (·.2)
def oI : Option Int → PyData
  | some i => .int i
  | none => .none
theorem getP_H (H : List (Pc × Int)) (p : Pc) : getP (H.map fun q => (q.1, PyData.int q.2)) p = (getH H p).map .int := by
  unfold getP getH
  rw [List.find?_map, Option.map_map, Option.map_map]
  rfl
theorem getO_H (H : List (Pc × Int)) (p : Pc) : getO (.dict (eH H)) (eP p) .none = some (.val (.d (oI (getH H p)))) := by
  show (dgetO (eH H) (eP p)).map _ = _
  unfold eH
  rw [dget_eD, getP_H]
  cases getH H p <;> rfl
theorem getO_H1 (H : List (Pc × Int)) (p : Pc) (w : Int) : getO (.dict (eH H)) (eP p) (.int w) = some (.val (.d (.int ((getH H p).getD w)))) := by
  show (dgetO (eH H) (eP p)).map _ = _
  unfold eH
  rw [dget_eD, getP_H]
  cases getH H p <;> rfl
theorem idx_H {H : List (Pc × Int)} {p : Pc} {i : Int} (h : getH H p = some i) : idxO (.dict (eH H)) (eP p) = some (.int i) := by
  show (dgetO (eH H) (eP p)).join = _
  unfold eH
  rw [dget_eD, getP_H, h]; rfl
theorem keys_H (H : List (Pc × Int)) : (H.map fun q => (q.1, PyData.int q.2)).map (·.1) = H.map (·.1) := by rw [List.map_map]; rfl
theorem inO_H (H : List (Pc × Int)) (p : Pc) : inO (eP p) (.dict (eH H)) = some (decide (p ∈ H.map (·.1))) := by
  unfold eH
  rw [inO_dict, keys_H]
def putH (H : List (Pc × Int)) (p : Pc) (v : Int) : List (Pc × Int) := if H.any fun q => decide (q.1 = p) then H.map fun q => if q.1 = p then (q.1, v) else q else H ++ [(p, v)]
theorem put_H (H : List (Pc × Int)) (p : Pc) (v : Int) (h : H.length < lim) : putO (eH H) (eP p) (.int v) = some (eH (putH H p v)) := by
  unfold eH
  rw [put_eD _ _ _ (by simpa using h)]
  congr 2
  unfold putP putH
  rw [List.any_map]
  show (if (H.any fun q => decide (q.1 = p)) = true then _ else _) = _
  split
  · rw [List.map_map, List.map_map]
    refine List.map_congr_left fun q _ => ?_
    simp only [Function.comp]
    split <;> rfl
  · simp
theorem putH_mem {H : List (Pc × Int)} {p : Pc} {v : Int} {q : Pc × Int} (h : q ∈ putH H p v) : q ∈ H ∨ q = (p, v) := by
  unfold putH at h
  split at h
  · obtain ⟨r, hr, rfl⟩ := List.mem_map.mp h
    split
    · rename_i e; exact .inr (by rw [e])
    · exact .inl hr
  · rcases List.mem_append.mp h with h | h
    · exact .inl h
    · exact .inr (List.mem_singleton.mp h)
theorem putH_keys {H : List (Pc × Int)} {p : Pc} {v : Int} : (∀ q ∈ H.map (·.1), q ∈ (putH H p v).map (·.1)) ∧ (putH H p v).length ≤ H.length + 1 := by
  unfold putH
  split
  · refine ⟨fun q hq => ?_, by simp⟩
    obtain ⟨r, hr, rfl⟩ := List.mem_map.mp hq
    refine List.mem_map.mpr ⟨_, List.mem_map.mpr ⟨r, hr, rfl⟩, ?_⟩
    split <;> rfl
  · refine ⟨fun q hq => ?_, by simp⟩
    rw [List.map_append]
    exact List.mem_append_left _ hq
theorem getH_some {H : List (Pc × Int)} {p : Pc} {v : Int} (h : getH H p = some v) : (p, v) ∈ H := by
  unfold getH at h
  obtain ⟨q, hq, rfl⟩ := Option.map_eq_some_iff.mp h
  have e := List.find?_some hq
  have m := List.mem_of_find?_eq_some hq
  have e : q.1 = p := by simpa using e
  rw [← e]; exact m
theorem getH_mem {H : List (Pc × Int)} {p : Pc} (h : p ∈ H.map (·.1)) : ∃ v, getH H p = some v := by
  obtain ⟨q, hq, rfl⟩ := List.mem_map.mp h
  unfold getH
  cases e : H.find? fun r => decide (r.1 = q.1) with
  | none => exact absurd (List.find?_eq_none.mp e q hq) (by simp)
  | some r => exact ⟨r.2, rfl⟩
theorem dict_eH : ∀ (L acc : List (Pc × Int)), ((acc ++ L).map (·.1)).Nodup → acc.length + L.length ≤ lim → dictOfL (L.map fun q => .tuple [eP q.1, .int q.2]) (eH acc) = some (eH (acc ++ L))
  | [], acc, _, _ => by simp [dictOfL]
  | q :: L, acc, h, hl => by
    have nq : q.1 ∉ acc.map (·.1) := fun z => by
      rw [List.map_append, List.map_cons, List.nodup_append] at h
      exact h.2.2 _ z _ List.mem_cons_self rfl
    have e : putO (eH acc) (eP q.1) (.int q.2) = some (eH (acc ++ [q])) := by
      rw [put_H _ _ _ (by simp only [List.length_cons] at hl; omega)]
      congr 2
      unfold putH
      rw [if_neg]
      intro z
      obtain ⟨r, hr, er⟩ := List.any_eq_true.mp z
      exact nq (List.mem_map.mpr ⟨r, hr, of_decide_eq_true er⟩)
    rw [List.map_cons]
    unfold dictOfL
    rw [e]
    show dictOfL _ (eH (acc ++ [q])) = _
    rw [dict_eH L (acc ++ [q]) (by simpa using h) (by simp only [List.length_append, List.length_cons, List.length_nil] at *; omega)]
    simp
def giv (H : List (Pc × Int)) (e : Nat × Ru) : Option Int :=
  if e.2.ps.any fun q => (getH H q).isNone then none else match e.2.ps.filterMap (getH H) with
    | [] => none
    | n :: ns => some (e.2.c + ns.foldl max n)
theorem foldl_max (ns : List Int) : ∀ n : Int, n ≤ ns.foldl max n := by
  induction ns with
  | nil => intro n; exact Int.le_refl _
  | cons m ns ih => intro n; exact Int.le_trans (Int.le_max_left ..) (ih (max n m))
theorem ints_alike (ns : List Int) : alikeL (ns.map .int) = true := by
  unfold alikeL
  rw [List.all_eq_true]
  intro x hx
  obtain ⟨n, _, rfl⟩ := List.mem_map.mp hx
  simp only [isNone, Bool.not_false, Bool.true_and, List.all_eq_true]
  intro y hy
  obtain ⟨m, _, rfl⟩ := List.mem_map.mp hy
  simp [PySem.W.alike]
theorem ints_depth (ns : List Int) : PyData.depthAll (ns.map .int) = 0 := by
  induction ns with
  | nil => simp [PyData.depthAll]
  | cons n ns ih => simp [PyData.depthAll, PyData.depth, ih]
theorem max_ints (n : Int) (ns : List Int) : bltO .maxl [.list (.int n :: ns.map .int)] = some (.val (.d (.int (ns.foldl max n)))) := by
  have h1 := ints_alike (n :: ns)
  have h2 := ints_depth (n :: ns)
  rw [List.map_cons] at h1 h2
  show (if (alikeL (PyData.int n :: ns.map .int) && decide (PyData.depthAll (PyData.int n :: ns.map .int) ≤ 64)) = true then some (Out.val (.d (PySem.W.maxD (.int n) (ns.map .int)))) else none) = _
  rw [h1, h2, PySem.W.maxD_ints]
  rfl
theorem lay_oI (o : Option Int) : Lay 0 (oI o) := by
  cases o
  · exact Lay.none
  · exact Lay.int _
theorem none_in (l : List (Option Int)) : inO .none (.list (l.map oI)) = some (l.any (·.isNone)) := by
  have h1 : SeqAt.shaped PyData.none = true := Lay.shaped (n := 0) Lay.none (by decide)
  have h2 : SeqAt.shaped (.list (l.map oI)) = true := Lay.shaped (n := 1) (Lay.list fun x hx => by
    obtain ⟨o, _, rfl⟩ := List.mem_map.mp hx
    exact lay_oI o) (by decide)
  simp only [inO, h1, h2, Bool.and_self, if_true, List.any_map]
  congr 2
  funext o
  cases o <;> simp [oI, PyData.eqv]
theorem all_some {l : List Pc} {f : Pc → Option Int} (h : (l.any fun q => (f q).isNone) = false) : l.map (fun q => oI (f q)) = (l.filterMap f).map .int := by
  induction l with
  | nil => rfl
  | cons q l ih =>
    rw [List.any_cons, Bool.or_eq_false_iff] at h
    cases e : f q with
    | none => rw [e] at h; simp at h
    | some i => rw [List.map_cons, List.filterMap_cons_some e, List.map_cons, ih h.2, e]; rfl
def Hands (v : Vl) (cs : Store) (H : List (Pc × Int)) : Prop := (v = .d (.dict (eH H)) ∧ cs = []) ∨ (v = .ref 0 ∧ cs = [some (.dct (eH H))])

end Lf

set_option Elab.async false
set_option linter.all false
set_option maxRecDepth 100000
set_option maxHeartbeats 4000000
set_option exponentiation.threshold 4000
namespace Lf
open PySem PySem.Spec PyProof.Rows L2
/-! ### least heights, in plain Lean -/
structure Rl (P : Type) where
  pc : P
  c : Int
  ps : List P
section lst
variable {P : Type} [DecidableEq P]
def givF (g : P → Option Int) (e : Rl P) : Option Int :=
  if e.ps.any fun q => (g q).isNone then none else match e.ps.filterMap g with
    | [] => none
    | n :: ns => some (e.c + ns.foldl max n)
theorem fm_ge : ∀ (ns : List Int) (n : Int), n ≤ ns.foldl max n ∧ ∀ m ∈ ns, m ≤ ns.foldl max n
  | [], n => ⟨Int.le_refl _, fun m hm => by cases hm⟩
  | a :: ns, n => by
    obtain ⟨h1, h2⟩ := fm_ge ns (max n a)
    rw [List.foldl_cons]
    refine ⟨by omega, fun m hm => ?_⟩
    rcases List.mem_cons.mp hm with rfl | hm
    · omega
    · exact h2 m hm
theorem fm_mem : ∀ (ns : List Int) (n : Int), ns.foldl max n ∈ n :: ns
  | [], n => List.mem_cons_self
  | a :: ns, n => by
    have h := fm_mem ns (max n a)
    rw [List.foldl_cons]
    rcases List.mem_cons.mp h with h | h
    · rw [h]
      by_cases c : n ≤ a
      · rw [Int.max_eq_right c]; exact List.mem_cons_of_mem _ List.mem_cons_self
      · rw [Int.max_eq_left (by omega)]; exact List.mem_cons_self
    · exact List.mem_cons_of_mem _ (List.mem_cons_of_mem _ h)
theorem any_none {g : P → Option Int} {ps : List P} : (ps.any fun q => (g q).isNone) = false ↔ ∀ q ∈ ps, ∃ n, g q = some n := by
  rw [List.any_eq_false]
  refine ⟨fun h q hq => ?_, fun h q hq => ?_⟩
  · have := h q hq
    cases e : g q with
    | none => rw [e] at this; exact absurd rfl this
    | some n => exact ⟨n, rfl⟩
  · obtain ⟨n, e⟩ := h q hq
    rw [e]; simp
theorem giv_some {g : P → Option Int} {e : Rl P} {i : Int} (h : givF g e = some i) : (∀ q ∈ e.ps, ∃ n, g q = some n) ∧ ∃ n ns, e.ps.filterMap g = n :: ns ∧ i = e.c + ns.foldl max n := by
  unfold givF at h
  split at h
  · cases h
  · rename_i q
    split at h
    · cases h
    · rename_i n ns z
      cases h
      exact ⟨any_none.mp (by simpa using q), n, ns, z, rfl⟩
theorem giv_up {g : P → Option Int} {e : Rl P} {i : Int} (h : givF g e = some i) : ∀ q ∈ e.ps, ∃ n, g q = some n ∧ e.c + n ≤ i := by
  obtain ⟨h1, n, ns, h2, rfl⟩ := giv_some h
  intro q hq
  obtain ⟨m, hm⟩ := h1 q hq
  refine ⟨m, hm, ?_⟩
  have : m ∈ n :: ns := by rw [← h2]; exact List.mem_filterMap.mpr ⟨q, hq, hm⟩
  obtain ⟨a, b⟩ := fm_ge ns n
  rcases List.mem_cons.mp this with rfl | z
  · omega
  · have := b m z; omega
theorem giv_at {g : P → Option Int} {e : Rl P} {i : Int} (h : givF g e = some i) : ∃ q ∈ e.ps, ∃ n, g q = some n ∧ i = e.c + n := by
  obtain ⟨h1, n, ns, h2, rfl⟩ := giv_some h
  have := fm_mem ns n
  rw [← h2] at this
  obtain ⟨q, hq, e⟩ := List.mem_filterMap.mp this
  exact ⟨q, hq, _, e, rfl⟩
theorem giv_is {g : P → Option Int} {e : Rl P} (h : ∀ q ∈ e.ps, ∃ n, g q = some n) (ne : e.ps ≠ []) : ∃ i, givF g e = some i := by
  unfold givF
  rw [any_none.mpr h]
  cases q : e.ps.filterMap g with
  | nil =>
    obtain ⟨p, ps, z⟩ := List.exists_cons_of_ne_nil ne
    obtain ⟨n, hn⟩ := h p (by rw [z]; exact List.mem_cons_self)
    have : n ∈ e.ps.filterMap g := List.mem_filterMap.mpr ⟨p, by rw [z]; exact List.mem_cons_self, hn⟩
    rw [q] at this; cases this
  | cons n ns => exact ⟨_, rfl⟩
theorem giv_ne {g : P → Option Int} {e : Rl P} {i : Int} (h : givF g e = some i) : e.ps ≠ [] := fun z => by
  obtain ⟨q, hq, _⟩ := giv_at h
  rw [z] at hq; cases hq
theorem giv_mono {g g' : P → Option Int} {e : Rl P} {i : Int} (m : ∀ q ∈ e.ps, ∀ n, g q = some n → ∃ k, k ≤ n ∧ g' q = some k) (h : givF g e = some i) : ∃ k, k ≤ i ∧ givF g' e = some k := by
  have up := giv_up h
  obtain ⟨k, hk⟩ := giv_is (g := g') (e := e) (fun q hq => by
    obtain ⟨n, hn, _⟩ := up q hq
    obtain ⟨k, _, hk⟩ := m q hq n hn
    exact ⟨k, hk⟩) (giv_ne h)
  refine ⟨k, ?_, hk⟩
  obtain ⟨q, hq, n', hn', rfl⟩ := giv_at hk
  obtain ⟨n, hn, le⟩ := up q hq
  obtain ⟨k, hk1, hk2⟩ := m q hq n hn
  rw [hn'] at hk2; cases hk2
  omega
theorem fmap_congr {g g' : P → Option Int} : ∀ {ps : List P}, (∀ q ∈ ps, g q = g' q) → ps.filterMap g = ps.filterMap g'
  | [], _ => rfl
  | p :: ps, h => by
    rw [List.filterMap_cons, List.filterMap_cons, h p List.mem_cons_self, fmap_congr fun q hq => h q (List.mem_cons_of_mem _ hq)]
theorem giv_congr {g g' : P → Option Int} {e : Rl P} (h : ∀ q ∈ e.ps, g q = g' q) : givF g e = givF g' e := by
  have e1 : (e.ps.any fun q => (g q).isNone) = e.ps.any fun q => (g' q).isNone := by
    rw [Bool.eq_iff_iff, List.any_eq_true, List.any_eq_true]
    exact ⟨fun ⟨q, hq, z⟩ => ⟨q, hq, by rw [← h q hq]; exact z⟩, fun ⟨q, hq, z⟩ => ⟨q, hq, by rw [h q hq]; exact z⟩⟩
  have e2 : e.ps.filterMap g = e.ps.filterMap g' := fmap_congr h
  unfold givF
  rw [e1, e2]
def getK (K : List (P × Int)) (p : P) : Option Int := (K.find? fun q => decide (q.1 = p)).map (·.2)
def putK (H : List (P × Int)) (p : P) (v : Int) : List (P × Int) := if H.any fun q => decide (q.1 = p) then H.map fun q => if q.1 = p then (q.1, v) else q else H ++ [(p, v)]
theorem getK_cons (a : P × Int) (K : List (P × Int)) (p : P) : getK (a :: K) p = if a.1 = p then some a.2 else getK K p := by
  unfold getK
  by_cases h : a.1 = p
  · simp [h]
  · simp [h]
theorem getK_mem {K : List (P × Int)} {p : P} {i : Int} (h : getK K p = some i) : (p, i) ∈ K := by
  induction K with
  | nil => cases h
  | cons a K ih =>
    rw [getK_cons] at h
    split at h
    · rename_i e; cases h; subst e; exact List.mem_cons_self
    · exact List.mem_cons_of_mem _ (ih h)
theorem getK_key {K : List (P × Int)} {p : P} {i : Int} (h : getK K p = some i) : p ∈ K.map (·.1) := List.mem_map.mpr ⟨_, getK_mem h, rfl⟩
theorem getK_of {K : List (P × Int)} {p : P} (h : p ∈ K.map (·.1)) : ∃ i, getK K p = some i := by
  induction K with
  | nil => cases h
  | cons a K ih =>
    rw [getK_cons]
    split
    · exact ⟨_, rfl⟩
    · rename_i n
      rw [List.map_cons, List.mem_cons] at h
      exact ih (h.resolve_left fun z => n z.symm)
theorem getK_none {K : List (P × Int)} {p : P} : getK K p = none ↔ p ∉ K.map (·.1) := by
  refine ⟨fun h z => ?_, fun h => ?_⟩
  · obtain ⟨i, e⟩ := getK_of z; rw [h] at e; cases e
  · cases e : getK K p with
    | none => rfl
    | some i => exact absurd (getK_key e) h
theorem getK_at {K : List (P × Int)} (one : (K.map (·.1)).Nodup) {q : P × Int} (h : q ∈ K) : getK K q.1 = some q.2 := by
  induction K with
  | nil => cases h
  | cons a K ih =>
    rw [List.map_cons, List.nodup_cons] at one
    rw [getK_cons]
    rcases List.mem_cons.mp h with rfl | h
    · rw [if_pos rfl]
    · rw [if_neg fun z => one.1 (by rw [z]; exact List.mem_map.mpr ⟨q, h, rfl⟩)]
      exact ih one.2 h
theorem getK_app (K L : List (P × Int)) (p : P) : getK (K ++ L) p = (getK K p).or (getK L p) := by
  induction K with
  | nil => rfl
  | cons a K ih =>
    rw [List.cons_append, getK_cons, getK_cons]
    split
    · rfl
    · exact ih
theorem getK_put (H : List (P × Int)) (p : P) (v : Int) (q : P) : getK (putK H p v) q = if q = p then some v else getK H q := by
  unfold putK
  by_cases a : H.any fun q => decide (q.1 = p)
  · rw [if_pos a]
    have a' : p ∈ H.map (·.1) := by
      obtain ⟨r, hr, e⟩ := List.any_eq_true.mp a
      exact List.mem_map.mpr ⟨r, hr, of_decide_eq_true e⟩
    clear a
    induction H with
    | nil => cases a'
    | cons b H ih =>
      rw [List.map_cons, getK_cons, getK_cons]
      by_cases hb : b.1 = p
      · rw [if_pos hb]
        by_cases hq : q = p
        · rw [if_pos (by simpa using hb.trans hq.symm), if_pos hq]
        · have n : ¬ b.1 = q := fun z => hq (z.symm.trans hb)
          rw [if_neg n, if_neg hq, if_neg n]
          by_cases m : p ∈ H.map (·.1)
          · rw [ih m, if_neg hq]
          · have e : H.map (fun q => if q.1 = p then (q.1, v) else q) = H := by
              have : ∀ x ∈ H, (if x.1 = p then (x.1, v) else x) = x := fun x hx => if_neg fun z => m (by rw [← z]; exact List.mem_map.mpr ⟨x, hx, rfl⟩)
              rw [List.map_congr_left this]; simp
            rw [e]
      · have m : p ∈ H.map (·.1) := by
          rw [List.map_cons, List.mem_cons] at a'
          exact a'.resolve_left fun z => hb z.symm
        rw [if_neg hb, ih m]
        by_cases z : b.1 = q
        · rw [if_pos z, if_pos z]
          by_cases hq : q = p
          · exact absurd (z.trans hq) hb
          · rw [if_neg hq]
        · rw [if_neg z, if_neg z]
  · rw [if_neg a, getK_app]
    have n : getK H p = none := getK_none.mpr fun z => a (by
      obtain ⟨r, hr, e⟩ := List.mem_map.mp z
      exact List.any_eq_true.mpr ⟨r, hr, decide_eq_true e⟩)
    by_cases hq : q = p
    · subst hq; rw [n, if_pos rfl, getK_cons, if_pos rfl]; rfl
    · rw [if_neg hq, getK_cons, if_neg (fun z => hq z.symm)]
      cases getK H q <;> rfl
theorem putK_keys (H : List (P × Int)) (p : P) (v : Int) : (putK H p v).map (·.1) = if p ∈ H.map (·.1) then H.map (·.1) else H.map (·.1) ++ [p] := by
  unfold putK
  by_cases a : H.any fun q => decide (q.1 = p)
  · have a' : p ∈ H.map (·.1) := by
      obtain ⟨r, hr, e⟩ := List.any_eq_true.mp a
      exact List.mem_map.mpr ⟨r, hr, of_decide_eq_true e⟩
    rw [if_pos a, if_pos a', List.map_map]
    refine List.map_congr_left fun x _ => ?_
    simp only [Function.comp]
    split <;> rfl
  · have n : p ∉ H.map (·.1) := fun z => a (by
      obtain ⟨r, hr, e⟩ := List.mem_map.mp z
      exact List.any_eq_true.mpr ⟨r, hr, decide_eq_true e⟩)
    rw [if_neg a, if_neg n]; simp
theorem putK_one {H : List (P × Int)} (h : (H.map (·.1)).Nodup) (p : P) (v : Int) : ((putK H p v).map (·.1)).Nodup := by
  rw [putK_keys]
  split
  · exact h
  · rename_i n
    rw [List.nodup_append]
    refine ⟨h, by simp, fun a ha b hb e => ?_⟩
    rw [List.mem_singleton.mp hb] at e
    exact n (e ▸ ha)
/-! closed, least -/
def Closed (V : List P) (R : List (Rl P)) (g : P → Option Int) : Prop :=
  (∀ v ∈ V, ∃ i, i ≤ 0 ∧ g v = some i) ∧ ∀ e ∈ R, ∀ i, givF g e = some i → ∃ j, j ≤ i ∧ g e.pc = some j
def Below (V : List P) (R : List (Rl P)) (g : P → Option Int) : Prop :=
  ∀ g', Closed V R g' → ∀ p i, g p = some i → ∃ j, j ≤ i ∧ g' p = some j
structure Least (V : List P) (R : List (Rl P)) (g : P → Option Int) : Prop where
  cl : Closed V R g
  be : Below V R g
theorem Least.mono {V V' : List P} {R : List (Rl P)} {g g' : P → Option Int} (h : Least V R g) (h' : Least V' R g') (s : ∀ v ∈ V, v ∈ V') : ∀ p i, g p = some i → ∃ j, j ≤ i ∧ g' p = some j :=
  h.be g' ⟨fun v hv => h'.cl.1 v (s v hv), h'.cl.2⟩
theorem Least.uniq {V V' : List P} {R : List (Rl P)} {g g' : P → Option Int} (h : Least V R g) (h' : Least V' R g') (s : ∀ v, v ∈ V ↔ v ∈ V') : ∀ p, g p = g' p := by
  intro p
  cases e : g p with
  | some i =>
    obtain ⟨j, hj, e'⟩ := h.mono h' (fun v hv => (s v).mp hv) p i e
    obtain ⟨k, hk, e2⟩ := h'.mono h (fun v hv => (s v).mpr hv) p j e'
    rw [e] at e2; cases e2
    rw [e']; congr 1; omega
  | none =>
    cases e' : g' p with
    | none => rfl
    | some j =>
      obtain ⟨k, hk, e2⟩ := h'.mono h (fun v hv => (s v).mpr hv) p j e'
      rw [e] at e2; cases e2
/-! the lowest next -/
structure Dij (V : List P) (R : List (Rl P)) (K : List (P × Int)) : Prop where
  one : (K.map (·.1)).Nodup
  ge : ∀ q ∈ K, 0 ≤ q.2
  vs : ∀ v ∈ V, (v, (0 : Int)) ∈ K
  cl : ∀ e ∈ R, ∀ i, givF (getK K) e = some i → ∀ j, getK K e.pc = some j → j ≤ i
  fr : ∀ q ∈ K, ∀ e ∈ R, ∀ i, givF (getK K) e = some i → getK K e.pc = none → q.2 ≤ i
  be : Below V R (getK K)
  ch : ∀ j, V.length ≤ j → ∀ q, K[j]? = some q → ∃ e ∈ R, e.pc = q.1 ∧ givF (getK (K.take j)) e = some q.2
  st : K.take V.length = V.map fun v => (v, (0 : Int))
theorem giv_pos {K : List (P × Int)} (ge : ∀ q ∈ K, 0 ≤ q.2) {e : Rl P} (hc : 1 ≤ e.c) {i : Int} (g : givF (getK K) e = some i) : 1 ≤ i := by
  obtain ⟨q, _, n, hn, rfl⟩ := giv_at g
  have : 0 ≤ n := ge _ (getK_mem hn)
  omega
theorem below_put {V : List P} {R : List (Rl P)} {g g' : P → Option Int} (h : Below V R g) {e : Rl P} (he : e ∈ R) {i : Int} (hi : givF g e = some i) (hg : ∀ p j, g' p = some j → g p = some j ∨ (p = e.pc ∧ j = i)) : Below V R g' := by
  intro f hf p j hj
  rcases hg p j hj with z | ⟨rfl, rfl⟩
  · exact h f hf p j z
  · obtain ⟨k, hk, z⟩ := giv_mono (g' := f) (fun q _ n hn => h f hf q n hn) hi
    obtain ⟨j', hj', z'⟩ := hf.2 e he k z
    exact ⟨j', by omega, z'⟩
theorem Dij.base {V : List P} {R : List (Rl P)} (one : V.Nodup) (hc : ∀ e ∈ R, 1 ≤ e.c) : Dij V R (V.map fun v => (v, (0 : Int))) := by
  have ge : ∀ q ∈ V.map fun v => (v, (0 : Int)), (0 : Int) ≤ q.2 := fun q hq => by
    obtain ⟨v, _, rfl⟩ := List.mem_map.mp hq; exact Int.le_refl _
  have z : ∀ q ∈ V.map fun v => (v, (0 : Int)), q.2 = (0 : Int) := fun q hq => by
    obtain ⟨v, _, rfl⟩ := List.mem_map.mp hq; rfl
  refine ⟨?_, ge, fun v hv => List.mem_map.mpr ⟨v, hv, rfl⟩, fun e he i g j hj => ?_, fun q hq e he i g _ => ?_, fun g' hg p i h => ?_, fun j hj q hq => ?_, ?_⟩
  · rw [List.map_map]; simpa [Function.comp_def] using one
  · have := giv_pos ge (hc e he) g
    have : j = 0 := z _ (getK_mem hj)
    omega
  · have := giv_pos ge (hc e he) g
    have := z q hq
    omega
  · have m := getK_mem h
    have e : i = 0 := z _ m
    obtain ⟨v, hv, q⟩ := List.mem_map.mp m
    have q1 : v = p := congrArg Prod.fst q
    obtain ⟨j, hj, h'⟩ := hg.1 v hv
    rw [q1] at h'
    exact ⟨j, by omega, h'⟩
  · have : j < (V.map fun v => (v, (0 : Int))).length := (List.getElem?_eq_some_iff.mp hq).1
    rw [List.length_map] at this; omega
  · rw [List.take_of_length_le (by simp)]
theorem getK_snoc {K : List (P × Int)} {p : P} {i : Int} (n : getK K p = none) (q : P) : getK (K ++ [(p, i)]) q = if q = p then some i else getK K q := by
  rw [getK_app, getK_cons]
  by_cases h : q = p
  · subst h; rw [n, if_pos rfl, if_pos rfl]; rfl
  · rw [if_neg (fun z => h z.symm), if_neg h]; cases getK K q <;> rfl
theorem giv_snoc {K : List (P × Int)} {p : P} {i : Int} (n : getK K p = none) {e : Rl P} (hc : 1 ≤ e.c) {j : Int} (g : givF (getK (K ++ [(p, i)])) e = some j) : givF (getK K) e = some j ∨ i < j := by
  by_cases h : p ∈ e.ps
  · obtain ⟨m, hm, le⟩ := giv_up g p h
    rw [getK_snoc n, if_pos rfl] at hm
    cases hm
    exact .inr (by omega)
  · refine .inl ?_
    rw [← g]
    exact giv_congr fun q hq => by
      have ne : ¬ q = p := fun z => h (by rw [← z]; exact hq)
      rw [getK_snoc n, if_neg ne]
theorem Dij.step {V : List P} {R : List (Rl P)} {K : List (P × Int)} (hc : ∀ e ∈ R, 1 ≤ e.c) (d : Dij V R K) {e : Rl P} (he : e ∈ R) {i : Int} (g : givF (getK K) e = some i) (n : getK K e.pc = none)
    (mn : ∀ e' ∈ R, ∀ i', givF (getK K) e' = some i' → getK K e'.pc = none → i ≤ i') : Dij V R (K ++ [(e.pc, i)]) := by
  have lv : V.length ≤ K.length := by
    have := congrArg List.length d.st
    rw [List.length_take, List.length_map] at this; omega
  refine ⟨?_, ?_, fun v hv => List.mem_append_left _ (d.vs v hv), fun e' he' i' g' j hj => ?_, fun q hq e' he' i' g' n' => ?_, ?_, fun j hj q hq => ?_, ?_⟩
  · rw [List.map_append, List.nodup_append]
    refine ⟨d.one, by simp, fun a ha b hb z => ?_⟩
    simp at hb
    rw [z, hb] at ha
    exact getK_none.mp n ha
  · intro q hq
    rcases List.mem_append.mp hq with hq | hq
    · exact d.ge q hq
    · rw [List.mem_singleton.mp hq]
      have := giv_pos d.ge (hc e he) g
      show 0 ≤ i; omega
  · rw [getK_snoc n] at hj
    rcases giv_snoc n (hc e' he') g' with z | z
    · split at hj
      · rename_i w; cases hj
        exact mn e' he' i' z (by rw [w]; exact n)
      · exact d.cl e' he' i' z j hj
    · split at hj
      · cases hj; omega
      · have : j ≤ i := d.fr (e'.pc, j) (getK_mem hj) e he i g n
        omega
  · rw [getK_snoc n] at n'
    split at n'
    · cases n'
    · rcases giv_snoc n (hc e' he') g' with z | z
      · rcases List.mem_append.mp hq with hq | hq
        · exact d.fr q hq e' he' i' z n'
        · rw [List.mem_singleton.mp hq]; exact mn e' he' i' z n'
      · rcases List.mem_append.mp hq with hq | hq
        · have := d.fr q hq e he i g n
          omega
        · rw [List.mem_singleton.mp hq]; show i ≤ i'; omega
  · refine below_put d.be he g fun p j hj => ?_
    rw [getK_snoc n] at hj
    split at hj
    · cases hj; exact .inr ⟨by assumption, rfl⟩
    · exact .inl hj
  · by_cases h : j < K.length
    · rw [List.getElem?_append_left h] at hq
      rw [List.take_append_of_le_length (Nat.le_of_lt h)]
      exact d.ch j hj q hq
    · have : j < (K ++ [(e.pc, i)]).length := (List.getElem?_eq_some_iff.mp hq).1
      have : j = K.length := by simp at this; omega
      subst this
      rw [List.getElem?_append_right (Nat.le_refl _), Nat.sub_self] at hq
      simp at hq
      subst hq
      rw [List.take_append_of_le_length (Nat.le_refl _), List.take_length]
      exact ⟨e, he, rfl, g⟩
  · rw [List.take_append_of_le_length lv]; exact d.st
def Full (R : List (Rl P)) (K : List (P × Int)) : Prop := ∀ e ∈ R, ∀ i, givF (getK K) e = some i → getK K e.pc ≠ none
theorem Dij.least {V : List P} {R : List (Rl P)} {K : List (P × Int)} (d : Dij V R K) (f : Full R K) : Least V R (getK K) := by
  refine ⟨⟨fun v hv => ⟨0, Int.le_refl _, getK_at d.one (d.vs v hv)⟩, fun e he i g => ?_⟩, d.be⟩
  cases z : getK K e.pc with
  | none => exact absurd z (f e he i g)
  | some j => exact ⟨j, d.cl e he i g j z, rfl⟩
theorem low_one {α : Type} (f : α → Option Int) : ∀ (L : List α), (∃ e ∈ L, ∃ i, f e = some i) → ∃ e ∈ L, ∃ i, f e = some i ∧ ∀ e' ∈ L, ∀ i', f e' = some i' → i ≤ i'
  | [], h => by obtain ⟨e, he, _⟩ := h; cases he
  | a :: L, h => by
    by_cases c : ∃ e ∈ L, ∃ i, f e = some i
    · obtain ⟨e, he, i, hi, mn⟩ := low_one f L c
      cases z : f a with
      | none =>
        refine ⟨e, List.mem_cons_of_mem _ he, i, hi, fun e' he' i' h' => ?_⟩
        rcases List.mem_cons.mp he' with rfl | he'
        · rw [z] at h'; cases h'
        · exact mn e' he' i' h'
      | some k =>
        by_cases l : k ≤ i
        · refine ⟨a, List.mem_cons_self, k, z, fun e' he' i' h' => ?_⟩
          rcases List.mem_cons.mp he' with rfl | he'
          · rw [z] at h'; cases h'; exact Int.le_refl _
          · have := mn e' he' i' h'; omega
        · refine ⟨e, List.mem_cons_of_mem _ he, i, hi, fun e' he' i' h' => ?_⟩
          rcases List.mem_cons.mp he' with rfl | he'
          · rw [z] at h'; cases h'; omega
          · exact mn e' he' i' h'
    · obtain ⟨e, he, i, hi⟩ := h
      rcases List.mem_cons.mp he with rfl | he
      · refine ⟨e, List.mem_cons_self, i, hi, fun e' he' i' h' => ?_⟩
        rcases List.mem_cons.mp he' with rfl | he'
        · rw [hi] at h'; cases h'; exact Int.le_refl _
        · exact absurd ⟨e', he', i', h'⟩ c
      · exact absurd ⟨e, he, i, hi⟩ c
theorem filt_lt {α : Type} {p q : α → Bool} : ∀ {L : List α}, (∀ x ∈ L, q x = true → p x = true) → (∃ x ∈ L, p x = true ∧ q x = false) → (L.filter q).length < (L.filter p).length
  | [], _, h => by obtain ⟨x, hx, _⟩ := h; cases hx
  | a :: L, h1, h2 => by
    have le : (L.filter q).length ≤ (L.filter p).length := by
      clear h2
      induction L with
      | nil => exact Nat.le_refl _
      | cons b L ih =>
        have ih := ih fun x hx => h1 x (by
          rcases List.mem_cons.mp hx with rfl | hx
          · exact List.mem_cons_self
          · exact List.mem_cons_of_mem _ (List.mem_cons_of_mem _ hx))
        have hb := h1 b (List.mem_cons_of_mem _ List.mem_cons_self)
        cases qb : q b with
        | true => rw [List.filter_cons_of_pos qb, List.filter_cons_of_pos (hb qb)]; simp; exact ih
        | false =>
          rw [List.filter_cons_of_neg (by rw [qb]; decide)]
          cases pb : p b with
          | true => rw [List.filter_cons_of_pos pb]; simp; omega
          | false => rw [List.filter_cons_of_neg (by rw [pb]; decide)]; exact ih
    obtain ⟨x, hx, px, qx⟩ := h2
    rcases List.mem_cons.mp hx with rfl | hx
    · rw [List.filter_cons_of_pos px, List.filter_cons_of_neg (by rw [qx]; decide)]
      simp; omega
    · have := filt_lt (L := L) (fun y hy => h1 y (List.mem_cons_of_mem _ hy)) ⟨x, hx, px, qx⟩
      have ha := h1 a List.mem_cons_self
      cases qa : q a with
      | true => rw [List.filter_cons_of_pos qa, List.filter_cons_of_pos (ha qa)]; simp; exact this
      | false =>
        rw [List.filter_cons_of_neg (by rw [qa]; decide)]
        cases pa : p a with
        | true => rw [List.filter_cons_of_pos pa]; simp; omega
        | false => rw [List.filter_cons_of_neg (by rw [pa]; decide)]; exact this
def open_ (R : List (Rl P)) (K : List (P × Int)) : Nat := (R.filter fun e => (getK K e.pc).isNone).length
theorem open_lt {R : List (Rl P)} {K : List (P × Int)} {e : Rl P} (he : e ∈ R) {i : Int} (n : getK K e.pc = none) : open_ R (K ++ [(e.pc, i)]) < open_ R K := by
  refine filt_lt (fun x _ h => ?_) ⟨e, he, by rw [n]; rfl, by rw [getK_snoc n, if_pos rfl]; rfl⟩
  rw [getK_snoc n] at h
  split at h
  · cases h
  · exact h
theorem dij_full {V : List P} {R : List (Rl P)} (hc : ∀ e ∈ R, 1 ≤ e.c) : ∀ (n : Nat) (K : List (P × Int)), Dij V R K → open_ R K ≤ n → ∃ K', Dij V R K' ∧ Full R K' ∧ K'.length ≤ K.length + n
  | n, K, d, hn => by
    by_cases f : ∃ e ∈ R, ∃ i, (if (getK K e.pc).isNone then givF (getK K) e else none) = some i
    · obtain ⟨e, he, i, hi, mn⟩ := low_one (fun e => if (getK K e.pc).isNone then givF (getK K) e else none) R f
      split at hi
      · rename_i z
        have z : getK K e.pc = none := by simpa using z
        have lt := open_lt (i := i) he z
        cases n with
        | zero => omega
        | succ n =>
          obtain ⟨K', d', f', l'⟩ := dij_full hc n _ (d.step hc he hi z fun e' he' i' g' n' => mn e' he' i' (by rw [n']; exact g')) (by omega)
          exact ⟨K', d', f', by simp at l'; omega⟩
      · cases hi
    · exact ⟨K, d, fun e he i g z => f ⟨e, he, i, by rw [z]; exact g⟩, by omega⟩
theorem dij_is {V : List P} {R : List (Rl P)} (one : V.Nodup) (hc : ∀ e ∈ R, 1 ≤ e.c) : ∃ K, Dij V R K ∧ Full R K ∧ K.length ≤ V.length + R.length := by
  obtain ⟨K, d, f, l⟩ := dij_full hc R.length _ (Dij.base one hc) (List.length_filter_le _ _)
  exact ⟨K, d, f, by simpa using l⟩
/-! round after round -/
def lows (H : List (P × Int)) (e : Rl P) : Option Int := match givF (getK H) e with
  | none => none
  | some i => if (match getK H e.pc with | none => true | some j => decide (i < j)) then some i else none
def stp (r : List (P × Int) × Bool) (e : Rl P) : List (P × Int) × Bool := match lows r.1 e with
  | some i => (putK r.1 e.pc i, true)
  | none => r
def rnd (R : List (Rl P)) (H : List (P × Int)) (f : Bool) : List (P × Int) × Bool := R.foldl stp (H, f)
theorem lows_none {H : List (P × Int)} {e : Rl P} : lows H e = none ↔ ∀ i, givF (getK H) e = some i → ∃ j, j ≤ i ∧ getK H e.pc = some j := by
  unfold lows
  cases givF (getK H) e with
  | none => exact ⟨fun _ i h => (by cases h), fun _ => rfl⟩
  | some i =>
    cases getK H e.pc with
    | none => exact ⟨fun h => (by cases h), fun h => by obtain ⟨j, _, h⟩ := h i rfl; cases h⟩
    | some j =>
      by_cases l : i < j
      · simp only [l, decide_true, if_true]
        exact ⟨fun h => (by cases h), fun h => by obtain ⟨j', l', h⟩ := h i rfl; cases h; omega⟩
      · simp only [l, decide_false]
        exact ⟨fun _ i' h => ⟨j, (by cases h; omega), rfl⟩, fun _ => rfl⟩
theorem lows_some {H : List (P × Int)} {e : Rl P} {i : Int} (h : lows H e = some i) : givF (getK H) e = some i ∧ ∀ j, getK H e.pc = some j → i < j := by
  unfold lows at h
  cases g : givF (getK H) e with
  | none => rw [g] at h; cases h
  | some i' =>
    rw [g] at h
    cases z : getK H e.pc with
    | none => rw [z] at h; cases h; exact ⟨rfl, fun j hj => by cases hj⟩
    | some j =>
      rw [z] at h
      by_cases l : i' < j
      · simp only [l, decide_true, if_true] at h
        cases h
        exact ⟨rfl, fun j' hj => by cases hj; exact l⟩
      · simp only [l, decide_false] at h; cases h
structure Hk (V : List P) (R : List (Rl P)) (H : List (P × Int)) : Prop where
  one : (H.map (·.1)).Nodup
  ge : ∀ q ∈ H, 0 ≤ q.2
  vs : ∀ v ∈ V, ∃ i, i ≤ 0 ∧ getK H v = some i
  be : Below V R (getK H)
  ks : ∀ k ∈ H.map (·.1), k ∈ V ∨ ∃ e ∈ R, e.pc = k
theorem Hk.base {V : List P} {R : List (Rl P)} (one : V.Nodup) (hc : ∀ e ∈ R, 1 ≤ e.c) : Hk V R (V.map fun v => (v, (0 : Int))) := by
  have d := Dij.base one hc
  refine ⟨d.one, d.ge, fun v hv => ⟨0, Int.le_refl _, getK_at d.one (d.vs v hv)⟩, d.be, fun k hk => .inl ?_⟩
  rw [List.map_map] at hk
  simpa [Function.comp_def] using hk
theorem Hk.stp {V : List P} {R : List (Rl P)} {r : List (P × Int) × Bool} (hc : ∀ e ∈ R, 1 ≤ e.c) (h : Hk V R r.1) {e : Rl P} (he : e ∈ R) : Hk V R (stp r e).1 := by
  unfold Lf.stp
  cases z : lows r.1 e with
  | none => exact h
  | some i =>
    obtain ⟨g, l⟩ := lows_some z
    have pos := giv_pos h.ge (hc e he) g
    refine ⟨putK_one h.one _ _, fun q hq => ?_, fun v hv => ?_, ?_, fun k hk => ?_⟩
    · have := getK_at (putK_one h.one e.pc i) hq
      rw [getK_put] at this
      split at this
      · cases this; omega
      · exact h.ge (q.1, q.2) (getK_mem this)
    · obtain ⟨j, hj, w⟩ := h.vs v hv
      show ∃ i', i' ≤ 0 ∧ getK (putK r.1 e.pc i) v = some i'
      rw [getK_put]
      split
      · rename_i q; subst q
        have := l j w
        exact ⟨i, by omega, rfl⟩
      · exact ⟨j, hj, w⟩
    · refine below_put h.be he g fun p j hj => ?_
      have hj : getK (putK r.1 e.pc i) p = some j := hj
      rw [getK_put] at hj
      split at hj
      · cases hj; exact .inr ⟨by assumption, rfl⟩
      · exact .inl hj
    · have hk : k ∈ (putK r.1 e.pc i).map (·.1) := hk
      rw [putK_keys] at hk
      split at hk
      · exact h.ks k hk
      · rcases List.mem_append.mp hk with hk | hk
        · exact h.ks k hk
        · exact .inr ⟨e, he, (List.mem_singleton.mp hk).symm⟩
theorem Hk.rnd {V : List P} {R : List (Rl P)} (hc : ∀ e ∈ R, 1 ≤ e.c) : ∀ {L : List (Rl P)} {r : List (P × Int) × Bool}, (∀ e ∈ L, e ∈ R) → Hk V R r.1 → Hk V R (L.foldl Lf.stp r).1
  | [], _, _, h => h
  | e :: L, r, s, h => by
    rw [List.foldl_cons]
    exact Hk.rnd hc (fun x hx => s x (List.mem_cons_of_mem _ hx)) (h.stp hc (s e List.mem_cons_self))
theorem stp_dec (r : List (P × Int) × Bool) (e : Rl P) {p : P} {i : Int} (h : getK r.1 p = some i) : ∃ j, j ≤ i ∧ getK (stp r e).1 p = some j := by
  unfold stp
  cases z : lows r.1 e with
  | none => exact ⟨i, Int.le_refl _, h⟩
  | some k =>
    obtain ⟨g, l⟩ := lows_some z
    show ∃ j, j ≤ i ∧ getK (putK r.1 e.pc k) p = some j
    rw [getK_put]
    split
    · rename_i q; subst q
      have := l i h
      exact ⟨k, by omega, rfl⟩
    · exact ⟨i, Int.le_refl _, h⟩
theorem rnd_dec : ∀ (L : List (Rl P)) (r : List (P × Int) × Bool) {p : P} {i : Int}, getK r.1 p = some i → ∃ j, j ≤ i ∧ getK (L.foldl stp r).1 p = some j
  | [], r, p, i, h => ⟨i, Int.le_refl _, h⟩
  | e :: L, r, p, i, h => by
    obtain ⟨j, hj, z⟩ := stp_dec r e h
    obtain ⟨k, hk, w⟩ := rnd_dec L (stp r e) z
    exact ⟨k, by omega, w⟩
theorem stp_put (r : List (P × Int) × Bool) (e : Rl P) {i : Int} (h : givF (getK r.1) e = some i) : ∃ j, j ≤ i ∧ getK (stp r e).1 e.pc = some j := by
  unfold stp
  cases z : lows r.1 e with
  | none => exact lows_none.mp z i h
  | some k =>
    obtain ⟨g, _⟩ := lows_some z
    rw [h] at g; cases g
    exact ⟨i, Int.le_refl _, by rw [getK_put, if_pos rfl]⟩
theorem flag_on : ∀ (L : List (Rl P)) (H : List (P × Int)), (L.foldl stp (H, true)).2 = true
  | [], _ => rfl
  | e :: L, H => by
    rw [List.foldl_cons]
    unfold stp
    cases lows H e with
    | none => exact flag_on L H
    | some i => exact flag_on L _
theorem flag_off : ∀ (L : List (Rl P)) (H : List (P × Int)), (L.foldl stp (H, false)).2 = false → (L.foldl stp (H, false)).1 = H ∧ ∀ e ∈ L, lows H e = none
  | [], _, _ => ⟨rfl, fun e he => by cases he⟩
  | e :: L, H, h => by
    rw [List.foldl_cons] at h ⊢
    cases z : lows H e with
    | none =>
      have q : stp (H, false) e = (H, false) := by unfold stp; simp only [z]
      rw [q] at h ⊢
      obtain ⟨h1, h2⟩ := flag_off L H h
      refine ⟨h1, fun e' he' => ?_⟩
      rcases List.mem_cons.mp he' with rfl | he'
      · exact z
      · exact h2 e' he'
    | some i =>
      have q : stp (H, false) e = (putK H e.pc i, true) := by unfold stp; simp only [z]
      rw [q, flag_on] at h; cases h
theorem still : ∀ (L : List (Rl P)) (H : List (P × Int)), (∀ e ∈ L, lows H e = none) → L.foldl stp (H, false) = (H, false)
  | [], _, _ => rfl
  | e :: L, H, h => by
    have q : stp (H, false) e = (H, false) := by unfold stp; simp only [h e List.mem_cons_self]
    rw [List.foldl_cons, q]
    exact still L H fun e' he' => h e' (List.mem_cons_of_mem _ he')
def Bel (K : List (P × Int)) (j : Nat) (H : List (P × Int)) : Prop := ∀ q ∈ K.take j, ∃ i, i ≤ q.2 ∧ getK H q.1 = some i
theorem bel_next {V : List P} {R : List (Rl P)} {K : List (P × Int)} (d : Dij V R K) {j : Nat} (hj : V.length ≤ j) {H : List (P × Int)} {f : Bool} (b : Bel K j H) : Bel K (j + 1) (rnd R H f).1 := by
  intro q hq
  rw [List.take_add_one] at hq
  rcases List.mem_append.mp hq with hq | hq
  · obtain ⟨i, hi, z⟩ := b q hq
    obtain ⟨k, hk, w⟩ := rnd_dec R (H, f) z
    exact ⟨k, by omega, w⟩
  · have hq : K[j]? = some q := by simpa using hq
    obtain ⟨e, he, ep, g⟩ := d.ch j hj q hq
    obtain ⟨A, B, rfl⟩ := List.append_of_mem he
    unfold rnd
    rw [List.foldl_append, List.foldl_cons]
    obtain ⟨k, hk, w⟩ := giv_mono (g' := getK (A.foldl stp (H, f)).1) (fun p _ n hn => by
      obtain ⟨i, hi, z⟩ := b (p, n) (getK_mem hn)
      obtain ⟨k, hk, w⟩ := rnd_dec A (H, f) z
      exact ⟨k, by simp only at hi; omega, w⟩) g
    obtain ⟨i, hi, z⟩ := stp_put (A.foldl stp (H, f)) e w
    obtain ⟨i', hi', z'⟩ := rnd_dec B _ z
    rw [← ep]
    exact ⟨i', by omega, z'⟩
theorem bel_end {V : List P} {R : List (Rl P)} {K H : List (P × Int)} (d : Dij V R K) (f : Full R K) (h : Hk V R H) (b : Bel K K.length H) : Least V R (getK H) := by
  have lk := d.least f
  have e : ∀ p, getK K p = getK H p := fun p => by
    cases z : getK K p with
    | some i =>
      obtain ⟨i', hi', w⟩ := b (p, i) (by rw [List.take_length]; exact getK_mem z)
      obtain ⟨j, hj, w'⟩ := h.be _ lk.cl p i' w
      rw [z] at w'; cases w'
      rw [w]; congr 1; simp only at hi'; omega
    | none =>
      cases w : getK H p with
      | none => rfl
      | some i =>
        obtain ⟨j, _, w'⟩ := h.be _ lk.cl p i w
        rw [z] at w'; cases w'
  have : getK K = getK H := funext e
  rw [← this]; exact lk
def iter (R : List (Rl P)) : Nat → List (P × Int) → Option (List (P × Int))
  | 0, _ => none
  | n + 1, H => if (rnd R H false).2 then iter R n (rnd R H false).1 else some (rnd R H false).1
theorem iter_least {V : List P} {R : List (Rl P)} {K : List (P × Int)} (hc : ∀ e ∈ R, 1 ≤ e.c) (d : Dij V R K) (f : Full R K) : ∀ (m : Nat) (H : List (P × Int)) (j : Nat), Hk V R H → Bel K j H → V.length ≤ j → K.length ≤ j + m →
    ∃ H', iter R (m + 1) H = some H' ∧ Hk V R H' ∧ Least V R (getK H')
  | 0, H, j, h, b, hj, hm => by
    have b' : Bel K K.length H := fun q hq => b q (by
      rw [List.take_length] at hq
      rw [List.take_of_length_le (by omega)]; exact hq)
    have l := bel_end d f h b'
    have s : rnd R H false = (H, false) := still R H fun e he => lows_none.mpr (l.cl.2 e he)
    refine ⟨H, ?_, h, l⟩
    unfold iter
    rw [s]; rfl
  | m + 1, H, j, h, b, hj, hm => by
    cases q : (rnd R H false).2 with
    | true =>
      obtain ⟨H', e, h'⟩ := iter_least hc d f m (rnd R H false).1 (j + 1) (Hk.rnd hc (fun _ h => h) h) (bel_next d hj b) (by omega) (by omega)
      refine ⟨H', ?_, h'⟩
      unfold iter
      rw [q]; exact e
    | false =>
      obtain ⟨s1, s2⟩ := flag_off R H q
      refine ⟨H, ?_, h, ⟨⟨h.vs, fun e he => lows_none.mp (s2 e he)⟩, h.be⟩⟩
      unfold iter
      rw [q]
      show some (rnd R H false).1 = some H
      rw [show (rnd R H false).1 = H from s1]
theorem iter_is {V : List P} {R : List (Rl P)} (one : V.Nodup) (hc : ∀ e ∈ R, 1 ≤ e.c) : ∃ H', iter R (R.length + 1) (V.map fun v => (v, (0 : Int))) = some H' ∧ Hk V R H' ∧ Least V R (getK H') := by
  obtain ⟨K, d, f, l⟩ := dij_is one hc
  have h := Hk.base one hc
  refine iter_least hc d f R.length _ V.length h (fun q hq => ?_) (Nat.le_refl _) (by omega)
  rw [d.st] at hq
  exact ⟨q.2, Int.le_refl _, getK_at h.one hq⟩
end lst

/-! ### places in order -/
def ltP (p q : Pc) : Bool := if p.1 = q.1 then decide (p.2.cps.toList < q.2.cps.toList) else decide (p.1.cps.toList < q.1.cps.toList)
theorem str_eq {a b : Str} (h : a.cps.toList = b.cps.toList) : a = b := by
  cases a; cases b
  simp only [Str.mk.injEq]
  exact Array.toList_inj.mp h
theorem dataLt_eP (p q : Pc) : PySem.W.dataLt (eP p) (eP q) = ltP p q := by
  unfold eP ltP
  rw [PySem.W.dataLt_pair (by simp [PySem.W.alike]) (by simp [PySem.W.alike]), PySem.W.dataLt_str, PySem.W.dataLt_str]
  simp only [PyData.eqv]
  by_cases h : p.1 = q.1
  · simp only [h, decide_true, if_true]
    by_cases h2 : p.2 = q.2
    · rw [h2]; simp [List.lt_irrefl]
    · simp [h2]
  · simp [h]
def lePc (p q : Pc) : Bool := !ltP q p
theorem lt_tri {a b : List Nat} (h : ¬ a < b) (g : ¬ b < a) : a = b := List.le_antisymm (List.not_lt.mp g) (List.not_lt.mp h)
theorem llt {a b c : List Nat} (h : a < b) (g : ¬ c < b) : a < c := by
  by_cases w : b < c
  · exact List.lt_trans h w
  · rw [← lt_tri w g]; exact h
theorem lePc_total (a b : Pc) : (lePc a b || lePc b a) = true := by
  unfold lePc ltP
  by_cases h : a.1 = b.1
  · rw [if_pos h.symm, if_pos h]
    by_cases g : b.2.cps.toList < a.2.cps.toList
    · have : ¬ a.2.cps.toList < b.2.cps.toList := List.lt_asymm g
      simp [this]
    · simp [g]
  · rw [if_neg (fun z => h z.symm), if_neg h]
    by_cases g : b.1.cps.toList < a.1.cps.toList
    · have : ¬ a.1.cps.toList < b.1.cps.toList := List.lt_asymm g
      simp [this]
    · simp [g]
theorem lePc_anti {a b : Pc} (h : lePc a b = true) (g : lePc b a = true) : a = b := by
  unfold lePc ltP at h g
  by_cases e : a.1 = b.1
  · rw [if_pos e.symm] at h
    rw [if_pos e] at g
    simp at h g
    exact Prod.ext e (str_eq (List.le_antisymm h g))
  · rw [if_neg fun z => e z.symm] at h
    rw [if_neg e] at g
    simp at h g
    exact absurd (str_eq (List.le_antisymm h g)) e
theorem lePc_trans (a b c : Pc) (h : lePc a b = true) (g : lePc b c = true) : lePc a c = true := by
  have no : ltP c a = false := by
    cases z : ltP c a with
    | false => rfl
    | true =>
      unfold lePc at h g
      simp only [Bool.not_eq_true'] at h g
      unfold ltP at h g z
      by_cases ca : c.1 = a.1
      · rw [if_pos ca] at z
        have z := of_decide_eq_true z
        by_cases ba : b.1 = a.1
        · rw [if_pos ba] at h
          rw [if_pos (ca.trans ba.symm)] at g
          have h := of_decide_eq_false h
          have g := of_decide_eq_false g
          exact absurd (llt (llt z h) g) (List.lt_irrefl _)
        · rw [if_neg ba] at h
          rw [if_neg (fun w => ba (w.symm.trans ca))] at g
          have h := of_decide_eq_false h
          have g := of_decide_eq_false g
          rw [ca] at g
          exact absurd (str_eq (lt_tri h g)) ba
      · rw [if_neg ca] at z
        have z := of_decide_eq_true z
        by_cases ba : b.1 = a.1
        · rw [if_neg (fun w => ca (w.trans ba))] at g
          have g := of_decide_eq_false g
          rw [ba] at g
          exact absurd z g
        · rw [if_neg ba] at h
          have h := of_decide_eq_false h
          have cb : c.1.cps.toList < b.1.cps.toList := llt z h
          by_cases w : c.1 = b.1
          · rw [w] at cb; exact absurd cb (List.lt_irrefl _)
          · rw [if_neg w] at g
            exact absurd cb (of_decide_eq_false g)
  unfold lePc
  rw [no]; rfl
def srt (ps : List Pc) : List Pc := ps.mergeSort lePc
theorem srt_perm (ps : List Pc) : (srt ps).Perm ps := List.mergeSort_perm _ _
theorem srt_up (ps : List Pc) : (srt ps).Pairwise fun a b => lePc a b = true := List.pairwise_mergeSort lePc_trans lePc_total ps
theorem srt_eq {a b : List Pc} (h : a.Perm b) : srt a = srt b :=
  List.Perm.eq_of_pairwise (le := fun a b => lePc a b = true) (fun _ _ _ _ h g => lePc_anti h g) (srt_up a) (srt_up b) ((srt_perm a).trans (h.trans (srt_perm b).symm))
theorem srt_srt (a : List Pc) : srt (srt a) = srt a := srt_eq (srt_perm a)
theorem mem_srt {a : List Pc} {p : Pc} : p ∈ srt a ↔ p ∈ a := (srt_perm a).mem_iff
theorem srt_len (a : List Pc) : (srt a).length = a.length := (srt_perm a).length_eq
theorem srt_nd {a : List Pc} (h : a.Nodup) : (srt a).Nodup := (srt_perm a).nodup_iff.mpr h
/-- the same things, each once: the same list in order -/
theorem srt_same {a b : List Pc} (ha : a.Nodup) (hb : b.Nodup) (h : ∀ p, p ∈ a ↔ p ∈ b) : srt a = srt b := srt_eq ((List.perm_ext_iff_of_nodup ha hb).mpr h)
theorem sort_eP (ps : List Pc) : sortD (ps.map eP) = (srt ps).map eP := by
  unfold sortD srt
  have e : lePc = fun a b => !PySem.W.dataLt (eP b) (eP a) := by
    funext a b
    unfold lePc
    rw [dataLt_eP]
  rw [e]
  exact (PySem.W.sort_maps eP (fun _ _ _ _ => rfl)).symm
theorem pcs_alike (ps : List Pc) : alikeL (ps.map eP) = true ∧ sortB (ps.map eP) = true ∧ PyData.depthAll (ps.map eP) ≤ 1 := by
  refine ⟨?_, ?_, ?_⟩
  · unfold alikeL
    rw [List.all_eq_true]
    intro x hx
    obtain ⟨p, _, rfl⟩ := List.mem_map.mp hx
    simp only [eP, isNone, Bool.not_false, Bool.true_and, List.all_eq_true]
    intro y hy
    obtain ⟨q, _, rfl⟩ := List.mem_map.mp hy
    simp [eP, PySem.W.alike, PySem.W.alikeAll]
  · unfold sortB
    rw [Bool.or_eq_true]
    refine .inl (List.all_eq_true.mpr fun x hx => ?_)
    obtain ⟨p, _, rfl⟩ := List.mem_map.mp hx
    rfl
  · induction ps with
    | nil => simp [PyData.depthAll]
    | cons p ps ih =>
      rw [List.map_cons]
      simp only [PyData.depthAll, eP, PyData.depth]
      omega
theorem sorted_eP (ps : List Pc) (hl : ps.length ≤ lim) : bltO .sortedR [.list (ps.map eP)] = some (.lst ((srt ps).map eP)) := by
  obtain ⟨h1, h2, h3⟩ := pcs_alike ps
  have h3 : PyData.depthAll (ps.map eP) ≤ 64 := by omega
  show (if (alikeL (ps.map eP) && sortB (ps.map eP) && decide (PyData.depthAll (ps.map eP) ≤ 64) && decide ((ps.map eP).length ≤ lim)) = true then some (Out.lst (sortD (ps.map eP))) else none) = _
  rw [h1, h2, decide_eq_true h3, List.length_map, decide_eq_true hl, sort_eP]
  rfl

end Lf

set_option Elab.async false
set_option linter.all false
set_option maxRecDepth 100000
set_option maxHeartbeats 4000000
set_option exponentiation.threshold 4000
namespace Lf
open PySem PySem.Spec PyProof.Rows L2
/-! ### the program's least heights -/
theorem c0_hby {C : CallT} {v : Vl} {cs : Store} {H : List (Pc × Int)} {e : Nat × Ru} {w1 w2 w3 w4 w6 : Option Vl} (hv : Hands v cs H) (he : RuOk e.2) :
    ev C c0_height_by [some v, w1, w2, w3, w4, some (.d (ePs e.2.ps)), w6, none] cs = .ok (.lst (e.2.ps.map fun q => oI (getH H q))) cs := by
  have l2 := he.l2
  refine comp_all (enc := eP) (fun q => oI (getH H q)) (by simp [lim, startE, execs, exec, ev, evT, evs, evI, M.bind, M.pure, M.lift, val, datum, settle, toDM, toDwM, toD, toDw, cellAt, Vl.asD, binO, addO, cmpO, eqO_int, eqO_str, eqO_b2, ltO, leO, isNone, truthO, lenO, bindO, bindT, bindTs, wipeE, wipes, bltO, asBools, isaO, setM, leave, exitO, callM, callIn, cellsAt, putBack, outBack, alloc, mthM, preM, toDsM, allD, cont, partO, isAbs, optI, itemsO, noExc, atom, smallI, idx_eW0, idx_eW1, idx_eW2, idx_eL0, idx_eL1, idx_eL2, idx_eL3, idx_eR3, idx_eRow, idx_cons0, cut_eR, ePs]) rfl (by show _ ≤ 1000000; omega) fun q hq => ⟨_, rfl, ?_⟩
  rcases hv with ⟨rfl, rfl⟩ | ⟨rfl, rfl⟩ <;> simp [lim, startE, execs, exec, ev, evT, evs, evI, M.bind, M.pure, M.lift, val, datum, settle, toDM, toDwM, toD, toDw, cellAt, Vl.asD, binO, addO, cmpO, eqO_int, eqO_str, eqO_b2, ltO, leO, isNone, truthO, lenO, bindO, bindT, bindTs, wipeE, wipes, bltO, asBools, isaO, setM, leave, exitO, callM, callIn, cellsAt, putBack, outBack, alloc, mthM, preM, toDsM, allD, cont, partO, isAbs, optI, itemsO, noExc, atom, smallI, idx_eW0, idx_eW1, idx_eW2, idx_eL0, idx_eL1, idx_eL2, idx_eL3, idx_eR3, idx_eRow, idx_cons0, cut_eR, preDM, getO_H]
theorem bind_eL (ts : Tgs) (e : Nat × Ru) (E : Env) : bindO (.tp ts) (.val (.d (eL e))) E = bindTs ts [.int e.1, eP e.2.pc, .int e.2.c, ePs e.2.ps] E := rfl
theorem height_by (k : Nat) {v : Vl} {cs : Store} {H : List (Pc × Int)} {e : Nat × Ru} (hv : Hands v cs H) (he : RuOk e.2) :
    run Fs (k + 1) 12 [v, .d (eL e)] cs = .ok (.val (.d (oI (giv H e)))) cs := by
  have c := fun w1 w2 w3 w4 w6 => c0_hby (C := run Fs k) (w1 := w1) (w2 := w2) (w3 := w3) (w4 := w4) (w6 := w6) hv he
  have n0 := none_in (e.2.ps.map (getH H))
  rw [List.map_map, List.any_map] at n0
  have n0 : inO .none (.list (e.2.ps.map fun q => oI (getH H q))) = some (e.2.ps.any fun q => (getH H q).isNone) := n0
  rw [run_at (fn := f_height_by) rfl rfl]
  cases a : e.2.ps.any fun q => (getH H q).isNone with
  | true =>
    rw [a] at n0
    have g : giv H e = none := by unfold giv; rw [if_pos a]
    generalize (e.2.ps.map fun q => oI (getH H q)) = L at c n0
    rcases hv with ⟨rfl, rfl⟩ | ⟨rfl, rfl⟩ <;> simp [f_height_by, lim, startE, execs, exec, ev, evT, evs, evI, M.bind, M.pure, M.lift, val, datum, settle, toDM, toDwM, toD, toDw, cellAt, Vl.asD, binO, addO, cmpO, eqO_int, eqO_str, eqO_b2, ltO, leO, isNone, truthO, lenO, idxO, sliceO, bindT, bindTs, wipeE, wipes, bltO, asBools, isaO, setM, leave, exitO, callM, callIn, cellsAt, putBack, outBack, alloc, mthM, preM, toDsM, allD, cont, partO, isAbs, optI, itemsO, noExc, atom, smallI, bindO.eq_1, bind_eL, c, n0, g, oI]
  | false =>
    rw [a] at n0
    have l := all_some a
    have ne : e.2.ps.filterMap (getH H) ≠ [] := fun z => by
      rw [z] at l
      have h1 := congrArg List.length l
      have h2 := he.l1
      rw [List.length_map] at h1
      simp only [List.map_nil, List.length_nil] at h1
      omega
    cases q : e.2.ps.filterMap (getH H) with
    | nil => exact absurd q ne
    | cons n ns =>
      have g : giv H e = some (e.2.c + ns.foldl max n) := by unfold giv; rw [if_neg (by rw [a]; decide), q]
      rw [l, q] at c n0
      have m := max_ints n ns
      rw [List.map_cons] at c n0
      rcases hv with ⟨rfl, rfl⟩ | ⟨rfl, rfl⟩ <;> simp [f_height_by, lim, startE, execs, exec, ev, evT, evs, evI, M.bind, M.pure, M.lift, val, datum, settle, toDM, toDwM, toD, toDw, cellAt, Vl.asD, binO, addO, cmpO, eqO_int, eqO_str, eqO_b2, ltO, leO, isNone, truthO, lenO, idxO, sliceO, bindT, bindTs, wipeE, wipes, asBools, isaO, setM, leave, exitO, callM, callIn, cellsAt, putBack, outBack, alloc, mthM, preM, toDsM, allD, cont, partO, isAbs, optI, itemsO, noExc, atom, smallI, bindO.eq_1, bind_eL, c, n0, g, oI, m]
def rl (e : Nat × Ru) : Rl Pc := ⟨e.2.pc, e.2.c, e.2.ps⟩
theorem giv_rl (H : List (Pc × Int)) (e : Nat × Ru) : giv H e = givF (getK H) (rl e) := rfl
theorem getH_K (H : List (Pc × Int)) (p : Pc) : getH H p = getK H p := rfl
theorem putH_K (H : List (Pc × Int)) (p : Pc) (i : Int) : putH H p i = putK H p i := rfl
/-- a dict out of places -/
theorem dcompr_V {bnd : PyData → Option Env} {c : Env → M Bool} {k e : Env → M PyData} {S : Store} : ∀ (V : List Pc) (acc : List (Pc × Int)), ((acc.map (·.1)) ++ V).Nodup → acc.length + V.length ≤ lim →
    (∀ p ∈ V, ∃ E1, bnd (eP p) = some E1 ∧ c E1 S = .ok true S ∧ k E1 S = .ok (eP p) S ∧ e E1 S = .ok (.int 0) S) → dcomprL bnd c k e (V.map eP) (eH acc) S = .ok (eH (acc ++ V.map fun v => (v, 0))) S
  | [], acc, _, _, _ => by unfold dcomprL; simp; rfl
  | p :: V, acc, n, hl, h => by
    obtain ⟨E1, e1, e2, e3, e4⟩ := h p List.mem_cons_self
    simp only [List.length_cons] at hl
    have np : p ∉ acc.map (·.1) := fun z => by
      rw [List.nodup_append] at n
      exact n.2.2 _ z _ List.mem_cons_self rfl
    have pe : putO (eH acc) (eP p) (.int 0) = some (eH (acc ++ [(p, 0)])) := by
      rw [put_H _ _ _ (by omega)]
      congr 2
      unfold putH
      rw [if_neg]
      intro z
      obtain ⟨r, hr, er⟩ := List.any_eq_true.mp z
      exact np (List.mem_map.mpr ⟨r, hr, of_decide_eq_true er⟩)
    rw [List.map_cons]
    unfold dcomprL
    rw [bind_ok (a := E1) (s' := S) (by rw [e1]; rfl), bind_ok e2, if_pos rfl, bind_ok e3, bind_ok e4, bind_ok (a := eH (acc ++ [(p, 0)])) (s' := S) (by rw [pe]; rfl)]
    rw [dcompr_V V (acc ++ [(p, 0)]) (by simpa using n) (by simp; omega) fun q hq => h q (List.mem_cons_of_mem _ hq)]
    simp
theorem ev_dcomp {C : CallT} {own : List Nat} {t : Tg} {it : Ir} {c k e : Ex} {E : Env} {S S1 : Store} {xs : List PyData} {kvs : List (PyData × PyData)} (h1 : evI C it E S = .ok xs S1) (hw : wipes own t = true)
    (h : dcomprL (fun x => bindT t x (wipeE E own)) (fun E => evT C c E) (fun E => datum (ev C k E)) (fun E => datum (ev C e E)) xs [] S1 = .ok kvs S1) : ev C (.dcomp own t it c k e) E S = .ok (.dct kvs) S1 := by
  unfold ev
  rw [bind_ok h1]
  first
  | (rw [if_pos hw]; unfold noExc; simp only [M.bind]; rw [h]; rfl)
  | (unfold noExc; simp only [M.bind, h, hw]; rfl)
theorem c0_lof {C : CallT} {V : List Pc} {w1 w2 w4 w5 w6 : Option Vl} {S : Store} (one : V.Nodup) (hl : V.length ≤ 1000) :
    ev C c0_least_of [some (.d (ePs V)), w1, w2, none, w4, w5, w6] S = .ok (.dct (eH (V.map fun v => (v, 0)))) S := by
  refine ev_dcomp (xs := V.map eP) (by simp [lim, startE, execs, exec, ev, evT, evs, evI, M.bind, M.pure, M.lift, val, datum, settle, toDM, toDwM, toD, toDw, cellAt, Vl.asD, binO, addO, cmpO, eqO_int, eqO_str, eqO_b2, ltO, leO, isNone, truthO, lenO, bindO, bindT, bindTs, wipeE, wipes, bltO, asBools, isaO, setM, leave, exitO, callM, callIn, cellsAt, putBack, outBack, alloc, mthM, preM, toDsM, allD, cont, partO, isAbs, optI, itemsO, noExc, atom, smallI, idx_eW0, idx_eW1, idx_eW2, idx_eL0, idx_eL1, idx_eL2, idx_eL3, idx_eR3, idx_eRow, idx_cons0, cut_eR, ePs]) rfl ?_
  have := dcompr_V (bnd := fun x => bindT (.nm 3) x (wipeE [some (.d (ePs V)), w1, w2, none, w4, w5, w6] [3])) (c := fun E => evT C (.cst (.bool true)) E) (k := fun E => datum (ev C (.var 3) E)) (e := fun E => datum (ev C (.cst (.int 0)) E)) (S := S) V [] (by simpa using one) (by show 0 + _ ≤ 1000000; omega) fun p _ => ⟨_, rfl, rfl, rfl, rfl⟩
  exact this
theorem lof_step (k : Nat) {H : List (Pc × Int)} {e : Nat × Ru} {f : Bool} (he : RuOk e.2) (hH : H.length < lim) (w0 w1 w3 w6 : Option Vl) :
    ∃ w6', execs (run Fs (k + 1)) b1_least_of [w0, w1, some (.ref 0), w3, some (.d (.bool f)), some (.d (eL e)), w6] [some (.dct (eH H))] =
      .ok (.nx, [w0, w1, some (.ref 0), w3, some (.d (.bool (stp (H, f) (rl e)).2)), some (.d (eL e)), w6']) [some (.dct (eH (stp (H, f) (rl e)).1))] := by
  have h := height_by k (v := .ref 0) (cs := [some (.dct (eH H))]) (.inr ⟨rfl, rfl⟩) he
  have io := inO_H H e.2.pc
  have pu := fun i => put_H H e.2.pc i hH
  refine ⟨some (.d (oI (giv H e))), ?_⟩
  cases g : giv H e with
  | none =>
    have l : lows H (rl e) = none := by unfold lows; rw [← giv_rl, g]
    have s : stp (H, f) (rl e) = (H, f) := by unfold stp; simp only [l]
    rw [g] at h
    rw [s]
    simp [b1_least_of, lim, startE, execs, exec, ev, evT, evs, evI, M.bind, M.pure, M.lift, val, datum, settle, toDM, toDwM, toD, toDw, cellAt, Vl.asD, binO, addO, cmpO, eqO_int, eqO_str, eqO_b2, ltO, leO, isNone, truthO, lenO, bindO, bindT, bindTs, wipeE, wipes, bltO, asBools, isaO, setM, leave, exitO, callM, callIn, cellsAt, putBack, outBack, alloc, mthM, preM, toDsM, allD, cont, partO, isAbs, optI, itemsO, noExc, atom, smallI, idx_eW0, idx_eW1, idx_eW2, idx_eL0, idx_eL1, idx_eL2, idx_eL3, idx_eR3, idx_eRow, idx_cons0, cut_eR, h, oI, g]
  | some i =>
    rw [g] at h
    cases q : getH H e.2.pc with
    | none =>
      have nm : e.2.pc ∉ H.map (·.1) := getK_none.mp q
      have l : lows H (rl e) = some i := by unfold lows; rw [← giv_rl, g, ← getH_K, show getH H (rl e).pc = none from q]; rfl
      have s : stp (H, f) (rl e) = (putH H e.2.pc i, true) := by unfold stp; simp only [l]; rfl
      rw [decide_eq_false nm] at io
      rw [s]
      simp [b1_least_of, lim, startE, execs, exec, ev, evT, evs, evI, M.bind, M.pure, M.lift, val, datum, settle, toDM, toDwM, toD, toDw, cellAt, Vl.asD, binO, addO, cmpO, eqO_int, eqO_str, eqO_b2, ltO, leO, isNone, truthO, lenO, bindO, bindT, bindTs, wipeE, wipes, bltO, asBools, isaO, setM, leave, exitO, callM, callIn, cellsAt, putBack, outBack, alloc, mthM, preM, toDsM, allD, cont, partO, isAbs, optI, itemsO, noExc, atom, smallI, idx_eW0, idx_eW1, idx_eW2, idx_eL0, idx_eL1, idx_eL2, idx_eL3, idx_eR3, idx_eRow, idx_cons0, cut_eR, h, oI, io, pu]
    | some j =>
      have ym : e.2.pc ∈ H.map (·.1) := getK_key q
      have ix := idx_H q
      rw [decide_eq_true ym] at io
      by_cases c : i < j
      · have l : lows H (rl e) = some i := by unfold lows; rw [← giv_rl, g, ← getH_K, show getH H (rl e).pc = some j from q]; simp [c]
        have s : stp (H, f) (rl e) = (putH H e.2.pc i, true) := by unfold stp; simp only [l]; rfl
        rw [s]
        simp [b1_least_of, lim, startE, execs, exec, ev, evT, evs, evI, M.bind, M.pure, M.lift, val, datum, settle, toDM, toDwM, toD, toDw, cellAt, Vl.asD, binO, addO, cmpO, eqO_int, eqO_str, eqO_b2, ltO, leO, isNone, truthO, lenO, bindO, bindT, bindTs, wipeE, wipes, bltO, asBools, isaO, setM, leave, exitO, callM, callIn, cellsAt, putBack, outBack, alloc, mthM, preM, toDsM, allD, cont, partO, isAbs, optI, itemsO, noExc, atom, smallI, idx_eW0, idx_eW1, idx_eW2, idx_eL0, idx_eL1, idx_eL2, idx_eL3, idx_eR3, idx_eRow, idx_cons0, cut_eR, h, oI, io, pu, ix, c]
      · have l : lows H (rl e) = none := by unfold lows; rw [← giv_rl, g, ← getH_K, show getH H (rl e).pc = some j from q]; simp [c]
        have s : stp (H, f) (rl e) = (H, f) := by unfold stp; simp only [l]
        rw [s]
        simp [b1_least_of, lim, startE, execs, exec, ev, evT, evs, evI, M.bind, M.pure, M.lift, val, datum, settle, toDM, toDwM, toD, toDw, cellAt, Vl.asD, binO, addO, cmpO, eqO_int, eqO_str, eqO_b2, ltO, leO, isNone, truthO, lenO, bindO, bindT, bindTs, wipeE, wipes, bltO, asBools, isaO, setM, leave, exitO, callM, callIn, cellsAt, putBack, outBack, alloc, mthM, preM, toDsM, allD, cont, partO, isAbs, optI, itemsO, noExc, atom, smallI, idx_eW0, idx_eW1, idx_eW2, idx_eL0, idx_eL1, idx_eL2, idx_eL3, idx_eR3, idx_eRow, idx_cons0, cut_eR, h, oI, io, ix, c]
theorem sub_lenA {α : Type} [DecidableEq α] : ∀ {xs ys : List α}, xs.Nodup → (∀ x ∈ xs, x ∈ ys) → xs.length ≤ ys.length
  | [], _, _, _ => Nat.zero_le _
  | x :: xs, ys, n, h => by
    rw [List.nodup_cons] at n
    have hx := h x List.mem_cons_self
    have := sub_lenA (ys := ys.erase x) n.2 fun y hy => (List.mem_erase_of_ne (fun e => n.1 (by rw [← e]; exact hy))).mpr (h y (List.mem_cons_of_mem _ hy))
    rw [List.length_erase_of_mem hx] at this
    have pos := List.length_pos_of_mem hx
    simp only [List.length_cons]
    omega
theorem Hk.len {V : List Pc} {R : List (Rl Pc)} {H : List (Pc × Int)} (h : Hk V R H) : H.length ≤ V.length + R.length := by
  have := sub_lenA (ys := V ++ R.map (·.pc)) h.one fun p hp => by
    rcases h.ks p hp with z | ⟨e, he, z⟩
    · exact List.mem_append_left _ z
    · exact List.mem_append_right _ (List.mem_map.mpr ⟨e, he, z⟩)
  simpa using this
theorem lof_loop (k : Nat) {V : List Pc} {R : List (Rl Pc)} (hc : ∀ e ∈ R, 1 ≤ e.c) (hl : V.length + R.length ≤ 10000) (w0 w1 w3 : Option Vl) : ∀ (L : List (Nat × Ru)) (H : List (Pc × Int)) (f : Bool) (w5 w6 : Option Vl), (∀ e ∈ L, RuOk e.2) → (∀ e ∈ L, rl e ∈ R) → Hk V R H →
    ∃ w5' w6', loopL (fun x E => bindT (.nm 5) x E) (fun E => execs (run Fs (k + 1)) b1_least_of E) (L.map eL) [w0, w1, some (.ref 0), w3, some (.d (.bool f)), w5, w6] [some (.dct (eH H))] =
      .ok (.nx, [w0, w1, some (.ref 0), w3, some (.d (.bool ((L.map rl).foldl stp (H, f)).2)), w5', w6']) [some (.dct (eH ((L.map rl).foldl stp (H, f)).1))]
  | [], H, f, w5, w6, _, _, _ => ⟨w5, w6, rfl⟩
  | e :: L, H, f, w5, w6, ho, hr, hk => by
    have lh := hk.len
    obtain ⟨w6', e1⟩ := lof_step k (H := H) (e := e) (f := f) (ho e List.mem_cons_self) (by show _ < 1000000; omega) w0 w1 w3 w6
    have hk' : Hk V R (stp (H, f) (rl e)).1 := Hk.stp (r := (H, f)) hc hk (hr e List.mem_cons_self)
    obtain ⟨w5'', w6'', e2⟩ := lof_loop k hc hl w0 w1 w3 L (stp (H, f) (rl e)).1 (stp (H, f) (rl e)).2 (some (.d (eL e))) w6' (fun x hx => ho x (List.mem_cons_of_mem _ hx)) (fun x hx => hr x (List.mem_cons_of_mem _ hx)) hk'
    refine ⟨w5'', w6'', ?_⟩
    rw [List.map_cons, List.map_cons, List.foldl_cons, loop_nx (E1 := [w0, w1, some (.ref 0), w3, some (.d (.bool f)), some (.d (eL e)), w6]) rfl e1]
    exact e2
theorem while_iter (k : Nat) {V : List Pc} {L : List (Nat × Ru)} (ho : ∀ e ∈ L, RuOk e.2) (hl : V.length + L.length ≤ 10000) (w0 w3 : Option Vl) : ∀ (n : Nat) (H H' : List (Pc × Int)) (m : Nat) (w5 w6 : Option Vl), iter (L.map rl) n H = some H' → Hk V (L.map rl) H → n + 1 ≤ m →
    ∃ w5' w6', whileL (fun E => evT (run Fs (k + 1)) (.var 4) E) (fun E => execs (run Fs (k + 1)) (.cons (.asg (.nm 4) (.cst (.bool false))) (.cons l2_least_of .nil)) E) m [w0, some (.d (.list (L.map eL))), some (.ref 0), w3, some (.d (.bool true)), w5, w6] [some (.dct (eH H))] =
      .ok (.nx, [w0, some (.d (.list (L.map eL))), some (.ref 0), w3, some (.d (.bool false)), w5', w6']) [some (.dct (eH H'))]
  | 0, H, H', m, w5, w6, h, _, _ => by cases h
  | n + 1, H, H', m, w5, w6, h, hk, hm => by
    obtain ⟨m, rfl⟩ : ∃ m', m = m' + 1 := ⟨m - 1, by omega⟩
    have hc : ∀ e ∈ L.map rl, 1 ≤ e.c := fun e he => by
      obtain ⟨x, hx, rfl⟩ := List.mem_map.mp he
      exact (ho x hx).c1
    obtain ⟨w5', w6', e1⟩ := lof_loop k hc (by simpa using hl) w0 (some (.d (.list (L.map eL)))) w3 L H false w5 w6 ho (fun e he => List.mem_map.mpr ⟨e, he, rfl⟩) hk
    have e2 : execs (run Fs (k + 1)) (.cons (.asg (.nm 4) (.cst (.bool false))) (.cons l2_least_of .nil)) [w0, some (.d (.list (L.map eL))), some (.ref 0), w3, some (.d (.bool true)), w5, w6] [some (.dct (eH H))] =
        .ok (.nx, [w0, some (.d (.list (L.map eL))), some (.ref 0), w3, some (.d (.bool (rnd (L.map rl) H false).2)), w5', w6']) [some (.dct (eH (rnd (L.map rl) H false).1))] := by
      have lp := exec_loop (t := .nm 5) (it := .x (.var 1)) (b := b1_least_of) (C := run Fs (k + 1)) (E := [w0, some (.d (.list (L.map eL))), some (.ref 0), w3, some (.d (.bool false)), w5, w6]) (S := [some (.dct (eH H))]) (S1 := [some (.dct (eH H))]) (xs := L.map eL) (by simp [lim, startE, execs, exec, ev, evT, evs, evI, M.bind, M.pure, M.lift, val, datum, settle, toDM, toDwM, toD, toDw, cellAt, Vl.asD, binO, addO, cmpO, eqO_int, eqO_str, eqO_b2, ltO, leO, isNone, truthO, lenO, bindO, bindT, bindTs, wipeE, wipes, bltO, asBools, isaO, setM, leave, exitO, callM, callIn, cellsAt, putBack, outBack, alloc, mthM, preM, toDsM, allD, cont, partO, isAbs, optI, itemsO, noExc, atom, smallI, idx_eW0, idx_eW1, idx_eW2, idx_eL0, idx_eL1, idx_eL2, idx_eL3, idx_eR3, idx_eRow, idx_cons0, cut_eR]) e1
      have lp : exec (run Fs (k + 1)) l2_least_of _ _ = _ := lp
      simp [lim, startE, execs, exec, ev, evT, evs, evI, M.bind, M.pure, M.lift, val, datum, settle, toDM, toDwM, toD, toDw, cellAt, Vl.asD, binO, addO, cmpO, eqO_int, eqO_str, eqO_b2, ltO, leO, isNone, truthO, lenO, bindO, bindT, bindTs, wipeE, wipes, bltO, asBools, isaO, setM, leave, exitO, callM, callIn, cellsAt, putBack, outBack, alloc, mthM, preM, toDsM, allD, cont, partO, isAbs, optI, itemsO, noExc, atom, smallI, idx_eW0, idx_eW1, idx_eW2, idx_eL0, idx_eL1, idx_eL2, idx_eL3, idx_eR3, idx_eRow, idx_cons0, cut_eR, lp]
      exact ⟨rfl, rfl⟩
    have ct : evT (run Fs (k + 1)) (.var 4) [w0, some (.d (.list (L.map eL))), some (.ref 0), w3, some (.d (.bool true)), w5, w6] [some (.dct (eH H))] = .ok true [some (.dct (eH H))] := by simp [lim, startE, execs, exec, ev, evT, evs, evI, M.bind, M.pure, M.lift, val, datum, settle, toDM, toDwM, toD, toDw, cellAt, Vl.asD, binO, addO, cmpO, eqO_int, eqO_str, eqO_b2, ltO, leO, isNone, truthO, lenO, bindO, bindT, bindTs, wipeE, wipes, bltO, asBools, isaO, setM, leave, exitO, callM, callIn, cellsAt, putBack, outBack, alloc, mthM, preM, toDsM, allD, cont, partO, isAbs, optI, itemsO, noExc, atom, smallI, idx_eW0, idx_eW1, idx_eW2, idx_eL0, idx_eL1, idx_eL2, idx_eL3, idx_eR3, idx_eRow, idx_cons0, cut_eR]
    unfold iter at h
    cases q : (rnd (L.map rl) H false).2 with
    | true =>
      rw [q] at h e2
      have hk' : Hk V (L.map rl) (rnd (L.map rl) H false).1 := Hk.rnd hc (fun _ h => h) hk
      obtain ⟨w5'', w6'', e3⟩ := while_iter k ho hl w0 w3 n _ H' m w5' w6' h hk' (by omega)
      refine ⟨w5'', w6'', ?_⟩
      unfold whileL
      rw [bind_ok ct, if_pos rfl, bind_ok e2]
      exact e3
    | false =>
      rw [q] at h e2
      cases h
      refine ⟨w5', w6', ?_⟩
      obtain ⟨m, rfl⟩ : ∃ m', m = m' + 1 := ⟨m - 1, by omega⟩
      unfold whileL
      rw [bind_ok ct, if_pos rfl, bind_ok e2]
      show whileL _ _ (m + 1) _ _ = _
      unfold whileL
      rw [bind_ok (a := false) (s' := [some (.dct (eH (rnd (L.map rl) H false).1))]) (by simp [lim, startE, execs, exec, ev, evT, evs, evI, M.bind, M.pure, M.lift, val, datum, settle, toDM, toDwM, toD, toDw, cellAt, Vl.asD, binO, addO, cmpO, eqO_int, eqO_str, eqO_b2, ltO, leO, isNone, truthO, lenO, bindO, bindT, bindTs, wipeE, wipes, bltO, asBools, isaO, setM, leave, exitO, callM, callIn, cellsAt, putBack, outBack, alloc, mthM, preM, toDsM, allD, cont, partO, isAbs, optI, itemsO, noExc, atom, smallI, idx_eW0, idx_eW1, idx_eW2, idx_eL0, idx_eL1, idx_eL2, idx_eL3, idx_eR3, idx_eRow, idx_cons0, cut_eR])]
      rfl
/-- what least_of tells -/
structure LstOk (V : List Pc) (L : List (Nat × Ru)) (H : List (Pc × Int)) : Prop where
  one : (H.map (·.1)).Nodup
  pc : ∀ q ∈ H, PcOk q.1
  ge : ∀ q ∈ H, 0 ≤ q.2
  le : Least V (L.map rl) (getK H)
  len : H.length ≤ V.length + L.length
theorem least_of (k : Nat) (V : List Pc) (L : List (Nat × Ru)) (hV : ∀ p ∈ V, PcOk p) (one : V.Nodup) (ho : ∀ e ∈ L, RuOk e.2) (h1 : V.length ≤ 1000) (h2 : L.length ≤ 1000) :
    ∃ H, run Fs (k + 2) 13 [.d (ePs V), .d (.list (L.map eL))] [] = .ok (.dct (eH H)) [] ∧ LstOk V L H := by
  have hc : ∀ e ∈ L.map rl, 1 ≤ e.c := fun e he => by
    obtain ⟨x, hx, rfl⟩ := List.mem_map.mp he
    exact (ho x hx).c1
  obtain ⟨H, e, hk, le⟩ := iter_is (V := V) (R := L.map rl) one hc
  obtain ⟨w5, w6, e3⟩ := while_iter k (V := V) ho (by omega) (some (.d (ePs V))) none _ _ H lim none none e (Hk.base one hc) (by rw [List.length_map]; show _ ≤ 1000000; omega)
  refine ⟨H, ?_, hk.one, fun q hq => ?_, hk.ge, le, by simpa using hk.len⟩
  · have c := fun w1 w2 w4 w5 w6 S => c0_lof (C := run Fs (k + 1)) (w1 := w1) (w2 := w2) (w4 := w4) (w5 := w5) (w6 := w6) (S := S) one h1
    have wh : exec (run Fs (k + 1)) l3_least_of [some (.d (ePs V)), some (.d (.list (L.map eL))), some (.ref 0), none, some (.d (.bool true)), none, none] [some (.dct (eH (V.map fun v => (v, 0))))] = .ok (.nx, [some (.d (ePs V)), some (.d (.list (L.map eL))), some (.ref 0), none, some (.d (.bool false)), w5, w6]) [some (.dct (eH H))] := e3
    rw [run_at (fn := f_least_of) rfl rfl]
    simp [f_least_of, lim, startE, execs, exec, ev, evT, evs, evI, M.bind, M.pure, M.lift, val, datum, settle, toDM, toDwM, toD, toDw, cellAt, Vl.asD, binO, addO, cmpO, eqO_int, eqO_str, eqO_b2, ltO, leO, isNone, truthO, lenO, bindO, bindT, bindTs, wipeE, wipes, bltO, asBools, isaO, setM, leave, exitO, callM, callIn, cellsAt, putBack, outBack, alloc, mthM, preM, toDsM, allD, cont, partO, isAbs, optI, itemsO, noExc, atom, smallI, idx_eW0, idx_eW1, idx_eW2, idx_eL0, idx_eL1, idx_eL2, idx_eL3, idx_eR3, idx_eRow, idx_cons0, cut_eR, c, wh]
  · rcases hk.ks q.1 (List.mem_map.mpr ⟨q, hq, rfl⟩) with z | ⟨e, he, z⟩
    · exact hV _ z
    · obtain ⟨x, hx, rfl⟩ := List.mem_map.mp he
      rw [← z]
      exact (ho x hx).pc

end Lf

set_option Elab.async false
set_option linter.all false
set_option maxRecDepth 100000
set_option maxHeartbeats 4000000
set_option exponentiation.threshold 4000
namespace Lf
open PySem PySem.Spec PyProof.Rows L2
/-! ### what falls, what is gained -/
def alone (H G : List (Pc × Int)) : List Pc := (H.filter fun q => !decide (q.1 ∈ G.map (·.1))).map (·.1)
def lessB (G : List (Pc × Int)) (q : Pc × Int) : Bool := match getH G q.1 with
  | some j => decide (q.2 < j)
  | none => false
def lesser (H G : List (Pc × Int)) : List Pc := (H.filter (lessB G)).map (·.1)
def pairD (A B : List Pc) : PyData := .tuple [ePs (srt A), ePs (srt B)]
theorem ev_keysD {C : CallT} {E : Env} {S : Store} {i : Nat} {H : List (Pc × Int)} (h : E[i]? = some (some (.d (.dict (eH H))))) : evI C (.keys i) E S = .ok (H.map fun q => eP q.1) S := by
  unfold evI
  simp [h, eH, eD, M.pure, List.map_map, Function.comp_def]
theorem ev_itemsD {C : CallT} {E : Env} {S : Store} {i : Nat} {H : List (Pc × Int)} (h : E[i]? = some (some (.d (.dict (eH H))))) : evI C (.items i) E S = .ok (H.map eRow) S := by
  unfold evI
  simp [h, eH, eD, M.pure, List.map_map, Function.comp_def, eRow]
theorem c0_mof {C : CallT} {H G : List (Pc × Int)} {w2 w4 w5 : Option Vl} {S : Store} (hl : H.length ≤ 10000) :
    ev C c0_more_of [some (.d (.dict (eH H))), some (.d (.dict (eH G))), w2, none, w4, w5] S = .ok (.lst ((alone H G).map eP)) S := by
  have := comp_ty (enc := fun q : Pc × Int => eP q.1) (C := C) (own := [3]) (t := .nm 3) (it := .keys 0) (c := .cmp .nin (.var 3) (.var 1)) (e := .var 3) (E := [some (.d (.dict (eH H))), some (.d (.dict (eH G))), w2, none, w4, w5]) (S := S) (S1 := S) (xs := H) (fun q => !decide (q.1 ∈ G.map (·.1))) (fun q => eP q.1) (ev_keysD rfl) rfl (by show _ ≤ 1000000; omega) fun q _ => by
    have io := inO_H G q.1
    refine ⟨_, rfl, ?_, fun _ => by simp [lim, startE, execs, exec, ev, evT, evs, evI, M.bind, M.pure, M.lift, val, datum, settle, toDM, toDwM, toD, toDw, cellAt, Vl.asD, binO, addO, cmpO, eqO_int, eqO_str, eqO_b2, ltO, leO, isNone, truthO, lenO, bindO, bindT, bindTs, wipeE, wipes, bltO, asBools, isaO, setM, leave, exitO, callM, callIn, cellsAt, putBack, outBack, alloc, mthM, preM, toDsM, allD, cont, partO, isAbs, optI, itemsO, noExc, atom, smallI, idx_eW0, idx_eW1, idx_eW2, idx_eL0, idx_eL1, idx_eL2, idx_eL3, idx_eR3, idx_eRow, idx_cons0, cut_eR]⟩
    simp [lim, startE, execs, exec, ev, evT, evs, evI, M.bind, M.pure, M.lift, val, datum, settle, toDM, toDwM, toD, toDw, cellAt, Vl.asD, binO, addO, cmpO, eqO_int, eqO_str, eqO_b2, ltO, leO, isNone, truthO, lenO, bindO, bindT, bindTs, wipeE, wipes, bltO, asBools, isaO, setM, leave, exitO, callM, callIn, cellsAt, putBack, outBack, alloc, mthM, preM, toDsM, allD, cont, partO, isAbs, optI, itemsO, noExc, atom, smallI, idx_eW0, idx_eW1, idx_eW2, idx_eL0, idx_eL1, idx_eL2, idx_eL3, idx_eR3, idx_eRow, idx_cons0, cut_eR, io]
  unfold alone
  rw [List.map_map]
  exact this
theorem c1_mof {C : CallT} {H G : List (Pc × Int)} {w0' w2 w4 : Option Vl} {S : Store} (hl : H.length ≤ 10000) :
    ev C c1_more_of [some (.d (.dict (eH H))), some (.d (.dict (eH G))), w2, none, w4, none] S = .ok (.lst ((lesser H G).map eP)) S := by
  have := comp_ty (enc := eRow) (C := C) (own := [3, 5]) (t := .tp (.cons (.nm 3) (.cons (.nm 5) .nil))) (it := .items 0) (c := .and (.cmp .inn (.var 3) (.var 1)) (.cmp .lt (.var 5) (.idx (.var 1) (.var 3)))) (e := .var 3) (E := [some (.d (.dict (eH H))), some (.d (.dict (eH G))), w2, none, w4, none]) (S := S) (S1 := S) (xs := H) (lessB G) (fun q => eP q.1) (ev_itemsD rfl) rfl (by show _ ≤ 1000000; omega) fun q _ => by
    have io := inO_H G q.1
    refine ⟨_, rfl, ?_, fun _ => by simp [lim, startE, execs, exec, ev, evT, evs, evI, M.bind, M.pure, M.lift, val, datum, settle, toDM, toDwM, toD, toDw, cellAt, Vl.asD, binO, addO, cmpO, eqO_int, eqO_str, eqO_b2, ltO, leO, isNone, truthO, lenO, bindO, bindT, bindTs, wipeE, wipes, bltO, asBools, isaO, setM, leave, exitO, callM, callIn, cellsAt, putBack, outBack, alloc, mthM, preM, toDsM, allD, cont, partO, isAbs, optI, itemsO, noExc, atom, smallI, idx_eW0, idx_eW1, idx_eW2, idx_eL0, idx_eL1, idx_eL2, idx_eL3, idx_eR3, idx_eRow, idx_cons0, cut_eR]⟩
    cases z : getH G q.1 with
    | none =>
      have nm : q.1 ∉ G.map (·.1) := getK_none.mp z
      rw [decide_eq_false nm] at io
      simp [lim, startE, execs, exec, ev, evT, evs, evI, M.bind, M.pure, M.lift, val, datum, settle, toDM, toDwM, toD, toDw, cellAt, Vl.asD, binO, addO, cmpO, eqO_int, eqO_str, eqO_b2, ltO, leO, isNone, truthO, lenO, bindO, bindT, bindTs, wipeE, wipes, bltO, asBools, isaO, setM, leave, exitO, callM, callIn, cellsAt, putBack, outBack, alloc, mthM, preM, toDsM, allD, cont, partO, isAbs, optI, itemsO, noExc, atom, smallI, idx_eW0, idx_eW1, idx_eW2, idx_eL0, idx_eL1, idx_eL2, idx_eL3, idx_eR3, idx_eRow, idx_cons0, cut_eR, io, lessB, z]
    | some j =>
      have ym : q.1 ∈ G.map (·.1) := getK_key z
      rw [decide_eq_true ym] at io
      have ix := idx_H z
      simp [lim, startE, execs, exec, ev, evT, evs, evI, M.bind, M.pure, M.lift, val, datum, settle, toDM, toDwM, toD, toDw, cellAt, Vl.asD, binO, addO, cmpO, eqO_int, eqO_str, eqO_b2, ltO, leO, isNone, truthO, lenO, bindO, bindT, bindTs, wipeE, wipes, bltO, asBools, isaO, setM, leave, exitO, callM, callIn, cellsAt, putBack, outBack, alloc, mthM, preM, toDsM, allD, cont, partO, isAbs, optI, itemsO, noExc, atom, smallI, idx_eW0, idx_eW1, idx_eW2, idx_eL0, idx_eL1, idx_eL2, idx_eL3, idx_eR3, idx_eRow, idx_cons0, cut_eR, io, lessB, z, ix]
  unfold lesser
  rw [List.map_map]
  exact this
theorem more_of (k : Nat) (H G : List (Pc × Int)) (hl : H.length ≤ 10000) : run Fs (k + 1) 15 [.d (.dict (eH H)), .d (.dict (eH G))] [] = .ok (.val (.d (pairD (alone H G) (lesser H G)))) [] := by
  have c0 := fun w2 w4 w5 S => c0_mof (C := run Fs k) (G := G) (w2 := w2) (w4 := w4) (w5 := w5) (S := S) hl
  have c1 := fun w2 w4 S => c1_mof (C := run Fs k) (G := G) (w0' := none) (w2 := w2) (w4 := w4) (S := S) hl
  have s0 := sorted_eP (alone H G) (by unfold alone; have := List.length_filter_le (fun q : Pc × Int => !decide (q.1 ∈ G.map (·.1))) H; rw [List.length_map]; show _ ≤ 1000000; omega)
  have s1 := sorted_eP (lesser H G) (by unfold lesser; have := List.length_filter_le (lessB G) H; rw [List.length_map]; show _ ≤ 1000000; omega)
  rw [run_at (fn := f_more_of) rfl rfl]
  generalize alone H G = A at *
  generalize lesser H G = B at *
  simp [f_more_of, lim, startE, execs, exec, ev, evT, evs, evI, M.bind, M.pure, M.lift, val, datum, settle, toDM, toDwM, toD, toDw, cellAt, Vl.asD, binO, addO, cmpO, eqO_int, eqO_str, eqO_b2, ltO, leO, isNone, truthO, lenO, bindO, bindT, bindTs, wipeE, wipes, asBools, isaO, setM, leave, exitO, callM, callIn, cellsAt, putBack, outBack, alloc, mthM, preM, toDsM, allD, cont, partO, isAbs, optI, itemsO, noExc, atom, smallI, idx_eW0, idx_eW1, idx_eW2, idx_eL0, idx_eL1, idx_eL2, idx_eL3, idx_eR3, idx_eRow, idx_cons0, cut_eR, c0, c1, s0, s1, pairD, ePs]
/-- what is handed in as places -/
theorem are_places_ePs (k : Nat) {ps : List Pc} (h : ∀ p ∈ ps, PcOk p) (n : ps.Nodup) (hl : ps.length ≤ 300) : run Fs (k + 3) 4 [.d (ePs ps)] [] = .ok (.val (.d (.bool true))) [] := by
  have := are_places k (ePs ps) fun xs e => by
    cases e
    refine ⟨fun x hx => ?_, by rw [List.length_map]; omega⟩
    obtain ⟨p, hp, rfl⟩ := List.mem_map.mp hx
    have ok := h p hp
    intro y hy
    simp [eP] at hy
    have ha := ok.a.len
    have hb := ok.b.len
    rcases hy with rfl | rfl
    · exact ⟨by show _ ≤ 1000000; omega, asc_ok ok.a.ac⟩
    · exact ⟨by show _ ≤ 1000000; omega, asc_ok ok.b.ac⟩
  rw [placesB_eP h n] at this
  exact this
open Classical in
/-- the least heights of these vouched places, by these rules -/
noncomputable def lf (V : List Pc) (L : List (Nat × Ru)) : Pc → Option Int := if h : ∃ g, Least V (L.map rl) g then Classical.choose h else fun _ => none
theorem lf_of {V : List Pc} {L : List (Nat × Ru)} {g : Pc → Option Int} (h : Least V (L.map rl) g) : Least V (L.map rl) (lf V L) := by
  unfold lf
  have e : ∃ g, Least V (L.map rl) g := ⟨g, h⟩
  rw [dif_pos e]
  exact Classical.choose_spec e
theorem lf_le {V : List Pc} {L : List (Nat × Ru)} (one : V.Nodup) (ho : ∀ e ∈ L, RuOk e.2) : Least V (L.map rl) (lf V L) := by
  obtain ⟨H, _, _, le⟩ := iter_is (V := V) (R := L.map rl) one fun e he => by
    obtain ⟨x, hx, rfl⟩ := List.mem_map.mp he
    exact (ho x hx).c1
  exact lf_of le
theorem LstOk.lf {V : List Pc} {L : List (Nat × Ru)} {H : List (Pc × Int)} (h : LstOk V L H) : ∀ p, getK H p = Lf.lf V L p := h.le.uniq (lf_of h.le) fun _ => Iff.rfl
theorem lf_same {V V' : List Pc} {L : List (Nat × Ru)} (one : V.Nodup) (one' : V'.Nodup) (ho : ∀ e ∈ L, RuOk e.2) (h : ∀ p, p ∈ V ↔ p ∈ V') : lf V L = lf V' L := funext ((lf_le one ho).uniq (lf_le one' ho) h)
theorem lf_mono {V V' : List Pc} {L : List (Nat × Ru)} (one : V.Nodup) (one' : V'.Nodup) (ho : ∀ e ∈ L, RuOk e.2) (h : ∀ p ∈ V, p ∈ V') : ∀ p i, lf V L p = some i → ∃ j, j ≤ i ∧ lf V' L p = some j := (lf_le one ho).mono (lf_le one' ho) h
/-- the two lists, each place once -/
structure Tell (f g : Pc → Option Int) (A B : List Pc) : Prop where
  oneA : A.Nodup
  oneB : B.Nodup
  pcA : ∀ p ∈ A, PcOk p
  pcB : ∀ p ∈ B, PcOk p
  memA : ∀ p, p ∈ A ↔ (∃ i, f p = some i) ∧ g p = none
  memB : ∀ p, p ∈ B ↔ ∃ i j, f p = some i ∧ g p = some j ∧ i < j
  lenA : A.length ≤ 1000
  lenB : B.length ≤ 1000
theorem Tell.same {f g f' g' : Pc → Option Int} {A B A' B' : List Pc} (h : Tell f g A B) (h' : Tell f' g' A' B') (ef : f = f') (eg : g = g') : srt A = srt A' ∧ srt B = srt B' := by
  subst ef eg
  exact ⟨srt_same h.oneA h'.oneA fun p => (h.memA p).trans (h'.memA p).symm, srt_same h.oneB h'.oneB fun p => (h.memB p).trans (h'.memB p).symm⟩
theorem sub_map {H : List (Pc × Int)} (one : (H.map (·.1)).Nodup) (c : Pc × Int → Bool) : ((H.filter c).map (·.1)).Nodup := one.sublist (List.filter_sublist.map _)
theorem tell_of {V V' : List Pc} {L : List (Nat × Ru)} {H G : List (Pc × Int)} (h : LstOk V L H) (g : LstOk V' L G) (hl : V.length + L.length ≤ 1000) : Tell (lf V L) (lf V' L) (alone H G) (lesser H G) := by
  have len := h.len
  refine ⟨sub_map h.one _, sub_map h.one _, fun p hp => ?_, fun p hp => ?_, fun p => ?_, fun p => ?_, ?_, ?_⟩
  · obtain ⟨q, hq, rfl⟩ := List.mem_map.mp hp
    exact h.pc q ((List.mem_filter.mp hq).1)
  · obtain ⟨q, hq, rfl⟩ := List.mem_map.mp hp
    exact h.pc q ((List.mem_filter.mp hq).1)
  · rw [← h.lf, ← g.lf, getK_none]
    unfold alone
    rw [List.mem_map]
    constructor
    · rintro ⟨q, hq, rfl⟩
      rw [List.mem_filter] at hq
      exact ⟨⟨q.2, getK_at h.one hq.1⟩, by simpa using hq.2⟩
    · rintro ⟨⟨i, hi⟩, n⟩
      exact ⟨(p, i), List.mem_filter.mpr ⟨getK_mem hi, by simpa using n⟩, rfl⟩
  · rw [← h.lf, ← g.lf]
    unfold lesser
    rw [List.mem_map]
    constructor
    · rintro ⟨q, hq, rfl⟩
      rw [List.mem_filter] at hq
      have hb := hq.2
      unfold lessB at hb
      cases z : getH G q.1 with
      | none => rw [z] at hb; cases hb
      | some j =>
        rw [z] at hb
        exact ⟨q.2, j, getK_at h.one hq.1, z, of_decide_eq_true hb⟩
    · rintro ⟨i, j, hi, hj, l⟩
      refine ⟨(p, i), List.mem_filter.mpr ⟨getK_mem hi, ?_⟩, rfl⟩
      unfold lessB
      rw [show getH G p = some j from hj]
      exact decide_eq_true l
  · unfold alone; rw [List.length_map]; have := List.length_filter_le (fun q : Pc × Int => !decide (q.1 ∈ G.map (·.1))) H; omega
  · unfold lesser; rw [List.length_map]; have := List.length_filter_le (lessB G) H; omega
def lvs (w : Wo) : List (Nat × Ru) := liv w.os 0 w.rs
theorem lvs_ok {w : Wo} (ok : WoOk w) : ∀ e ∈ lvs w, RuOk e.2 := fun e he => ok.rs _ (liv_mem he)
theorem lvs_len {w : Wo} (ok : WoOk w) : (lvs w).length ≤ 60 := Nat.le_trans liv_len ok.rl
theorem least (k : Nat) (w : Wo) (ok : WoOk w) : ∃ H, run Fs (k + 8) 14 [.d (eW w)] [] = .ok (.dct (eH H)) [] ∧ LstOk w.vs (lvs w) H := by
  have vl := ok.vl
  have ll := lvs_len ok
  obtain ⟨H, e, h⟩ := least_of (k + 5) w.vs (lvs w) ok.vs ok.v1 (lvs_ok ok) (by omega) (by omega)
  have n := need_world k ok
  have l : run Fs (k + 7) 11 [.d (eW w)] [] = .ok (.lst ((lvs w).map eL)) [] := living (k + 5) w ok
  refine ⟨H, ?_, h⟩
  rw [run_at (fn := f_least) rfl rfl]
  simp [f_least, lim, startE, execs, exec, ev, evT, evs, evI, M.bind, M.pure, M.lift, val, datum, settle, toDM, toDwM, toD, toDw, cellAt, Vl.asD, binO, addO, cmpO, eqO_int, eqO_str, eqO_b2, ltO, leO, isNone, truthO, lenO, bindO, bindT, bindTs, wipeE, wipes, bltO, asBools, isaO, setM, leave, exitO, callM, callIn, cellsAt, putBack, outBack, alloc, mthM, preM, toDsM, allD, cont, partO, isAbs, optI, itemsO, noExc, atom, smallI, idx_eW0, idx_eW1, idx_eW2, idx_eL0, idx_eL1, idx_eL2, idx_eL3, idx_eR3, idx_eRow, idx_cons0, cut_eR, n, l, e]
def minus (V one : List Pc) : List Pc := V.filter fun p => !decide (p ∈ one)
theorem mem_minus {V one : List Pc} {p : Pc} : p ∈ minus V one ↔ p ∈ V ∧ p ∉ one := by unfold minus; rw [List.mem_filter]; simp
theorem minus_nd {V : List Pc} (one : List Pc) (h : V.Nodup) : (minus V one).Nodup := h.sublist List.filter_sublist
theorem minus_len (V one : List Pc) : (minus V one).length ≤ V.length := List.length_filter_le _ _
theorem c0_fal {C : CallT} {w : Wo} {one : List Pc} (ok : WoOk w) (ho : ∀ p ∈ one, p ∈ w.vs) (hl : one.length ≤ 1000) {w3 w4 : Option Vl} {S : Store} :
    ev C c0_falls [some (.d (eW w)), some (.d (ePs one)), none, w3, w4] S = .ok (.lst (one.map fun _ => .bool true)) S :=
  comp_all (enc := eP) (fun _ => .bool true) (by simp [lim, startE, execs, exec, ev, evT, evs, evI, M.bind, M.pure, M.lift, val, datum, settle, toDM, toDwM, toD, toDw, cellAt, Vl.asD, binO, addO, cmpO, eqO_int, eqO_str, eqO_b2, ltO, leO, isNone, truthO, lenO, bindO, bindT, bindTs, wipeE, wipes, bltO, asBools, isaO, setM, leave, exitO, callM, callIn, cellsAt, putBack, outBack, alloc, mthM, preM, toDsM, allD, cont, partO, isAbs, optI, itemsO, noExc, atom, smallI, idx_eW0, idx_eW1, idx_eW2, idx_eL0, idx_eL1, idx_eL2, idx_eL3, idx_eR3, idx_eRow, idx_cons0, cut_eR, ePs]) rfl (by show _ ≤ 1000000; omega) fun p hp => ⟨_, rfl, by
    have io := inO_eP (ok.vs p (ho p hp)) ok.vs
    rw [decide_eq_true (ho p hp)] at io
    simp [lim, startE, execs, exec, ev, evT, evs, evI, M.bind, M.pure, M.lift, val, datum, settle, toDM, toDwM, toD, toDw, cellAt, Vl.asD, binO, addO, cmpO, eqO_int, eqO_str, eqO_b2, ltO, leO, isNone, truthO, lenO, bindO, bindT, bindTs, wipeE, wipes, bltO, asBools, isaO, setM, leave, exitO, callM, callIn, cellsAt, putBack, outBack, alloc, mthM, preM, toDsM, allD, cont, partO, isAbs, optI, itemsO, noExc, atom, smallI, idx_eW0, idx_eW1, idx_eW2, idx_eL0, idx_eL1, idx_eL2, idx_eL3, idx_eR3, idx_eRow, idx_cons0, cut_eR, io]⟩
theorem c1_fal {C : CallT} {w : Wo} {one : List Pc} (ok : WoOk w) (ho : ∀ p ∈ one, PcOk p) {w3 w4 : Option Vl} {S : Store} :
    ev C c1_falls [some (.d (eW w)), some (.d (ePs one)), none, w3, w4] S = .ok (.lst ((minus w.vs one).map eP)) S := by
  have vl := ok.vl
  refine comp_ty (enc := eP) (fun p => !decide (p ∈ one)) eP (by simp [lim, startE, execs, exec, ev, evT, evs, evI, M.bind, M.pure, M.lift, val, datum, settle, toDM, toDwM, toD, toDw, cellAt, Vl.asD, binO, addO, cmpO, eqO_int, eqO_str, eqO_b2, ltO, leO, isNone, truthO, lenO, bindO, bindT, bindTs, wipeE, wipes, bltO, asBools, isaO, setM, leave, exitO, callM, callIn, cellsAt, putBack, outBack, alloc, mthM, preM, toDsM, allD, cont, partO, isAbs, optI, itemsO, noExc, atom, smallI, idx_eW0, idx_eW1, idx_eW2, idx_eL0, idx_eL1, idx_eL2, idx_eL3, idx_eR3, idx_eRow, idx_cons0, cut_eR, ePs]) rfl (by show _ ≤ 1000000; omega) fun p hp => ⟨_, rfl, ?_, fun _ => by simp [lim, startE, execs, exec, ev, evT, evs, evI, M.bind, M.pure, M.lift, val, datum, settle, toDM, toDwM, toD, toDw, cellAt, Vl.asD, binO, addO, cmpO, eqO_int, eqO_str, eqO_b2, ltO, leO, isNone, truthO, lenO, bindO, bindT, bindTs, wipeE, wipes, bltO, asBools, isaO, setM, leave, exitO, callM, callIn, cellsAt, putBack, outBack, alloc, mthM, preM, toDsM, allD, cont, partO, isAbs, optI, itemsO, noExc, atom, smallI, idx_eW0, idx_eW1, idx_eW2, idx_eL0, idx_eL1, idx_eL2, idx_eL3, idx_eR3, idx_eRow, idx_cons0, cut_eR]⟩
  have io := inO_eP (ok.vs p hp) ho
  simp [lim, startE, execs, exec, ev, evT, evs, evI, M.bind, M.pure, M.lift, val, datum, settle, toDM, toDwM, toD, toDw, cellAt, Vl.asD, binO, addO, cmpO, eqO_int, eqO_str, eqO_b2, ltO, leO, isNone, truthO, lenO, bindO, bindT, bindTs, wipeE, wipes, bltO, asBools, isaO, setM, leave, exitO, callM, callIn, cellsAt, putBack, outBack, alloc, mthM, preM, toDsM, allD, cont, partO, isAbs, optI, itemsO, noExc, atom, smallI, idx_eW0, idx_eW1, idx_eW2, idx_eL0, idx_eL1, idx_eL2, idx_eL3, idx_eR3, idx_eRow, idx_cons0, cut_eR, io]
theorem falls (k : Nat) (w : Wo) (one : List Pc) (ok : WoOk w) (ho : ∀ p ∈ one, p ∈ w.vs) (n : one.Nodup) :
    ∃ A B, run Fs (k + 8) 16 [.d (eW w), .d (ePs one)] [] = .ok (.val (.d (pairD A B))) [] ∧ Tell (lf w.vs (lvs w)) (lf (minus w.vs one) (lvs w)) A B := by
  have vl := ok.vl
  have ll := lvs_len ok
  have ol : one.length ≤ 16 := Nat.le_trans (sub_lenA n ho) vl
  have op : ∀ p ∈ one, PcOk p := fun p hp => ok.vs p (ho p hp)
  have ml := minus_len w.vs one
  obtain ⟨H, e1, h1⟩ := least_of (k + 5) w.vs (lvs w) ok.vs ok.v1 (lvs_ok ok) (by omega) (by omega)
  obtain ⟨G, e2, h2⟩ := least_of (k + 5) (minus w.vs one) (lvs w) (fun p hp => ok.vs p (mem_minus.mp hp).1) (minus_nd one ok.v1) (lvs_ok ok) (by omega) (by omega)
  have hl1 := h1.len
  refine ⟨_, _, ?_, tell_of h1 h2 (by omega)⟩
  have nw := need_world k ok
  have l : run Fs (k + 7) 11 [.d (eW w)] [] = .ok (.lst ((lvs w).map eL)) [] := living (k + 5) w ok
  have ap : run Fs (k + 7) 4 [.d (ePs one)] [] = _ := are_places_ePs (k + 4) op n (by omega)
  have c0 := fun w3 w4 S => c0_fal (C := run Fs (k + 7)) (w3 := w3) (w4 := w4) (S := S) ok ho (by omega)
  have c1 := fun w3 w4 S => c1_fal (C := run Fs (k + 7)) (w3 := w3) (w4 := w4) (S := S) ok op
  have ab := asBools_ty one fun _ => true
  have at_ := all_true one
  have m : run Fs (k + 7) 15 [.d (.dict (eH H)), .d (.dict (eH G))] [] = _ := more_of (k + 6) H G (by omega)
  rw [run_at (fn := f_falls) rfl rfl]
  generalize (one.map fun _ => PyData.bool true) = T at c0 ab
  generalize eqm : (minus w.vs one).map eP = Mz at c1
  have e2 : run Fs (k + 7) 13 [.d (.list Mz), .d (.list ((lvs w).map eL))] [] = .ok (.dct (eH G)) [] := by rw [← eqm]; exact e2
  simp [f_falls, lim, startE, execs, exec, ev, evT, evs, evI, M.bind, M.pure, M.lift, val, datum, settle, toDM, toDwM, toD, toDw, cellAt, Vl.asD, binO, addO, cmpO, eqO_int, eqO_str, eqO_b2, ltO, leO, isNone, truthO, lenO, bindO, bindT, bindTs, wipeE, wipes, asBools, isaO, setM, leave, exitO, callM, callIn, cellsAt, putBack, outBack, alloc, mthM, preM, toDsM, allD, cont, partO, isAbs, optI, itemsO, noExc, atom, smallI, idx_eW0, idx_eW1, idx_eW2, idx_eL0, idx_eL1, idx_eL2, idx_eL3, idx_eR3, idx_eRow, idx_cons0, cut_eR, nw, l, ap, c0, c1, bltO, ab, at_, e1, e2, m]
theorem c0_gai {C : CallT} {w : Wo} {one : List Pc} (ok : WoOk w) (ho : ∀ p ∈ one, PcOk p) (hd : ∀ p ∈ one, p ∉ w.vs) (hl : one.length ≤ 1000) {w3 : Option Vl} {S : Store} :
    ev C c0_gains [some (.d (eW w)), some (.d (ePs one)), none, w3] S = .ok (.lst []) S := by
  have := comp_ty (enc := eP) (C := C) (own := [2]) (t := .nm 2) (it := .x (.var 1)) (c := .cmp .inn (.var 2) (.idx (.var 0) (.cst (.int 0)))) (e := .var 2) (E := [some (.d (eW w)), some (.d (ePs one)), none, w3]) (S := S) (S1 := S) (xs := one) (fun p => decide (p ∈ w.vs)) eP (by simp [lim, startE, execs, exec, ev, evT, evs, evI, M.bind, M.pure, M.lift, val, datum, settle, toDM, toDwM, toD, toDw, cellAt, Vl.asD, binO, addO, cmpO, eqO_int, eqO_str, eqO_b2, ltO, leO, isNone, truthO, lenO, bindO, bindT, bindTs, wipeE, wipes, bltO, asBools, isaO, setM, leave, exitO, callM, callIn, cellsAt, putBack, outBack, alloc, mthM, preM, toDsM, allD, cont, partO, isAbs, optI, itemsO, noExc, atom, smallI, idx_eW0, idx_eW1, idx_eW2, idx_eL0, idx_eL1, idx_eL2, idx_eL3, idx_eR3, idx_eRow, idx_cons0, cut_eR, ePs]) rfl (by show _ ≤ 1000000; omega) fun p hp => ⟨_, rfl, by
    have io := inO_eP (ho p hp) ok.vs
    simp [lim, startE, execs, exec, ev, evT, evs, evI, M.bind, M.pure, M.lift, val, datum, settle, toDM, toDwM, toD, toDw, cellAt, Vl.asD, binO, addO, cmpO, eqO_int, eqO_str, eqO_b2, ltO, leO, isNone, truthO, lenO, bindO, bindT, bindTs, wipeE, wipes, bltO, asBools, isaO, setM, leave, exitO, callM, callIn, cellsAt, putBack, outBack, alloc, mthM, preM, toDsM, allD, cont, partO, isAbs, optI, itemsO, noExc, atom, smallI, idx_eW0, idx_eW1, idx_eW2, idx_eL0, idx_eL1, idx_eL2, idx_eL3, idx_eR3, idx_eRow, idx_cons0, cut_eR, io], fun _ => by simp [lim, startE, execs, exec, ev, evT, evs, evI, M.bind, M.pure, M.lift, val, datum, settle, toDM, toDwM, toD, toDw, cellAt, Vl.asD, binO, addO, cmpO, eqO_int, eqO_str, eqO_b2, ltO, leO, isNone, truthO, lenO, bindO, bindT, bindTs, wipeE, wipes, bltO, asBools, isaO, setM, leave, exitO, callM, callIn, cellsAt, putBack, outBack, alloc, mthM, preM, toDsM, allD, cont, partO, isAbs, optI, itemsO, noExc, atom, smallI, idx_eW0, idx_eW1, idx_eW2, idx_eL0, idx_eL1, idx_eL2, idx_eL3, idx_eR3, idx_eRow, idx_cons0, cut_eR]⟩
  have e : one.filter (fun p => decide (p ∈ w.vs)) = [] := List.filter_eq_nil_iff.mpr fun p hp => by simpa using hd p hp
  rw [e] at this
  exact this
theorem gains (k : Nat) (w : Wo) (one : List Pc) (ok : WoOk w) (ho : ∀ p ∈ one, PcOk p) (n : one.Nodup) (hd : ∀ p ∈ one, p ∉ w.vs) (ol : one.length ≤ 100) :
    ∃ A B, run Fs (k + 8) 17 [.d (eW w), .d (ePs one)] [] = .ok (.val (.d (pairD A B))) [] ∧ Tell (lf (w.vs ++ one) (lvs w)) (lf w.vs (lvs w)) A B := by
  have vl := ok.vl
  have ll := lvs_len ok
  have vn : (w.vs ++ one).Nodup := List.nodup_append.mpr ⟨ok.v1, n, fun a ha b hb e => hd b hb (e ▸ ha)⟩
  obtain ⟨H, e1, h1⟩ := least_of (k + 5) (w.vs ++ one) (lvs w) (fun p hp => (List.mem_append.mp hp).elim (ok.vs p) (ho p)) vn (lvs_ok ok) (by simp; omega) (by omega)
  obtain ⟨G, e2, h2⟩ := least_of (k + 5) w.vs (lvs w) ok.vs ok.v1 (lvs_ok ok) (by omega) (by omega)
  have hl1 := h1.len
  rw [List.length_append] at hl1
  refine ⟨_, _, ?_, tell_of h1 h2 (by rw [List.length_append]; omega)⟩
  have nw := need_world k ok
  have l : run Fs (k + 7) 11 [.d (eW w)] [] = .ok (.lst ((lvs w).map eL)) [] := living (k + 5) w ok
  have ap : run Fs (k + 7) 4 [.d (ePs one)] [] = _ := are_places_ePs (k + 4) ho n (by omega)
  have c0 := fun w3 S => c0_gai (C := run Fs (k + 7)) (w3 := w3) (S := S) ok ho hd (by omega)
  have m : run Fs (k + 7) 15 [.d (.dict (eH H)), .d (.dict (eH G))] [] = _ := more_of (k + 6) H G (by omega)
  have ad : binO .add (ePs w.vs) (ePs one) = some (.lst ((w.vs ++ one).map eP)) := by
    unfold ePs
    rw [List.map_append]
    simp only [binO, addO, List.length_map]
    rw [if_pos (by show _ ≤ 1000000; omega)]
  have ne : eqO (.list []) (.list []) = some true := by rfl
  rw [run_at (fn := f_gains) rfl rfl]
  generalize eqm : (w.vs ++ one).map eP = Mz at ad
  have e1 : run Fs (k + 7) 13 [.d (.list Mz), .d (.list ((lvs w).map eL))] [] = .ok (.dct (eH H)) [] := by rw [← eqm]; exact e1
  simp [f_gains, lim, startE, execs, exec, ev, evT, evs, evI, M.bind, M.pure, M.lift, val, datum, settle, toDM, toDwM, toD, toDw, cellAt, Vl.asD, cmpO, eqO_int, eqO_str, eqO_b2, ltO, leO, isNone, truthO, lenO, bindO, bindT, bindTs, wipeE, wipes, bltO, asBools, isaO, setM, leave, exitO, callM, callIn, cellsAt, putBack, outBack, alloc, mthM, preM, toDsM, allD, cont, partO, isAbs, optI, itemsO, noExc, atom, smallI, idx_eW0, idx_eW1, idx_eW2, nw, l, ap, c0, ad, ne, e1, e2, m]

end Lf

set_option Elab.async false
set_option linter.all false
set_option maxRecDepth 100000
set_option maxHeartbeats 4000000
set_option exponentiation.threshold 4000
namespace Lf
open PySem PySem.Spec PyProof.Rows L2
/-! ### draws -/
theorem nat4000 {i : Int} (h0 : 0 ≤ i) (h : i < 10 ^ 200) : i.natAbs < 2 ^ 4000 := Nat.lt_of_lt_of_le (show i.natAbs < 10 ^ 200 by omega) (by decide +kernel)
theorem t10 : (10 : Nat) < 2 ^ 4000 := by decide +kernel
theorem take (k n : Nat) (xs : List PyData) (many : Int) (h : PotOk n xs) (hn : n ≤ 1000000) (h0 : 0 < many) (h1 : many < 1073741824) :
    ∃ v ys, run Fs (k + 1) 19 [.ref 0, .d (.int many)] [some (.lst xs)] = .ok (.val (.d (.int v))) [some (.lst ys)] ∧ 0 ≤ v ∧ v < many ∧ PotOk (n + 1) ys := by
  obtain ⟨a, b, c, rfl, ha, hb, hb2, hc, hc2⟩ := h
  rw [run_at (fn := f__law_take) rfl rfl]
  by_cases p : 0 < a
  · refine ⟨a % many, [.int (a / many), .int b, .int c], ?_, Int.emod_nonneg _ (by omega), Int.emod_lt_of_pos _ h0, ⟨_, _, _, rfl, Int.ediv_nonneg ha (by omega), hb, hb2, hc, by omega⟩⟩
    simp [f__law_take, lim, startE, execs, exec, ev, evT, evs, evI, M.bind, M.pure, M.lift, val, datum, settle, toDM, toDwM, toD, toDw, cellAt, Vl.asD, binO, addO, cmpO, eqO_int, eqO_str, eqO_b2, inO, ltO, leO, isNone, truthO, lenO, idxO, sliceO, L2.atI, L2.ixN, bindO, bindT, bindTs, wipeE, wipes, bltO, asBools, isaO, setM, leave, exitO, callM, callIn, cellsAt, putBack, outBack, alloc, mthM, preM, toDsM, allD, cont, partO, isAbs, optI, itemsO, noExc, rngL, atom, smallI, p, h0, h1]
  · have q1 : (b + 15485863 * (c + 1)).natAbs < 2 ^ 4000 := nat4000 (by omega) (by omega)
    have r1 : 0 ≤ (b + 15485863 * (c + 1)) ^ 3 % 162259276829213363391578010288127 := Int.emod_nonneg _ (by decide)
    have r2 : (b + 15485863 * (c + 1)) ^ 3 % 162259276829213363391578010288127 < 162259276829213363391578010288127 := Int.emod_lt_of_pos _ (by decide)
    generalize hm : (b + 15485863 * (c + 1)) ^ 3 % 162259276829213363391578010288127 = m at r1 r2
    have q2 : (m + 32452843 * (c + 1)).natAbs < 2 ^ 4000 := nat4000 (by omega) (by omega)
    refine ⟨(m + 32452843 * (c + 1)) ^ 5 % 170141183460469231731687303715884105727 / 1048576 % many, [.int a, .int b, .int (c + 1)], ?_, Int.emod_nonneg _ (by omega), Int.emod_lt_of_pos _ h0, ⟨_, _, _, rfl, ha, hb, hb2, by omega, by omega⟩⟩
    simp at hm q1 q2
    simp [f__law_take, lim, startE, execs, exec, ev, evT, evs, evI, M.bind, M.pure, M.lift, val, datum, settle, toDM, toDwM, toD, toDw, cellAt, Vl.asD, binO, addO, cmpO, eqO_int, eqO_str, eqO_b2, inO, ltO, leO, isNone, truthO, lenO, idxO, sliceO, L2.atI, L2.ixN, bindO, bindT, bindTs, wipeE, wipes, bltO, asBools, isaO, setM, leave, exitO, callM, callIn, cellsAt, putBack, outBack, alloc, mthM, preM, toDsM, allD, cont, partO, isAbs, optI, itemsO, noExc, rngL, atom, smallI, p, h0, h1, q1, q2, hm, t10]
theorem pot (k : Nat) (ns : List Int) (kk : Int) (h0 : 0 ≤ kk) (h1 : kk ≤ 20) : ∃ xs, run Fs (k + 1) 18 [.scr ns, .d (.int kk)] [] = .ok (.lst xs) [] ∧ PotOk 0 xs := by
  rw [run_at (fn := f__law_pot) rfl rfl]
  have fin : ∀ z : Int, PotOk 0 [.int (if z - 10 ^ 18 > 0 then z - 10 ^ 18 else 0), .int (z % 618970019642690137449562111 + 7368787 * kk), .int 0] := fun z => by
    have r1 : 0 ≤ z % 618970019642690137449562111 := Int.emod_nonneg _ (by decide)
    have r2 : z % 618970019642690137449562111 < 618970019642690137449562111 := Int.emod_lt_of_pos _ (by decide)
    refine ⟨_, _, _, rfl, by split <;> omega, by omega, by omega, by omega, by omega⟩
  by_cases p : kk < (ns.length : Int)
  · obtain ⟨z, hz, hm⟩ := at_mem (xs := ns.map PyData.int) h0 (by simpa using p)
    obtain ⟨z, _, rfl⟩ := List.mem_map.mp hm
    refine ⟨_, ?_, fin z⟩
    simp [f__law_pot, lim, startE, execs, exec, ev, evT, evs, evI, M.bind, M.pure, M.lift, val, datum, settle, toDM, toDwM, toD, toDw, cellAt, Vl.asD, binO, addO, cmpO, eqO_int, eqO_str, eqO_b2, inO, ltO, leO, isNone, truthO, lenO, idxO, sliceO, bindO, bindT, bindTs, wipeE, wipes, bltO, asBools, isaO, setM, leave, exitO, callM, callIn, cellsAt, putBack, outBack, alloc, mthM, preM, toDsM, allD, cont, partO, isAbs, optI, itemsO, noExc, atom, smallI, p, hz, t10]
  · refine ⟨_, ?_, fin 0⟩
    simp [f__law_pot, lim, startE, execs, exec, ev, evT, evs, evI, M.bind, M.pure, M.lift, val, datum, settle, toDM, toDwM, toD, toDw, cellAt, Vl.asD, binO, addO, cmpO, eqO_int, eqO_str, eqO_b2, inO, ltO, leO, isNone, truthO, lenO, idxO, sliceO, bindO, bindT, bindTs, wipeE, wipes, bltO, asBools, isaO, setM, leave, exitO, callM, callIn, cellsAt, putBack, outBack, alloc, mthM, preM, toDsM, allD, cont, partO, isAbs, optI, itemsO, noExc, atom, smallI, p, t10]
/-! ### taken out, one after another -/
theorem erase_perm {α : Type} {l : List α} {i : Nat} (h : i < l.length) : (l[i] :: l.eraseIdx i).Perm l := by
  have e : l.take i ++ l[i] :: l.drop (i + 1) = l := by rw [← List.drop_eq_getElem_cons h, List.take_append_drop]
  rw [List.eraseIdx_eq_take_drop_succ]
  have := (List.perm_middle (l₁ := l.take i) (a := l[i]) (l₂ := l.drop (i + 1))).symm
  rwa [e] at this
theorem pop_ty {α : Type} (f : α → PyData) (L : List α) (a : Int) (h0 : 0 ≤ a) (h1 : a < L.length) : ∃ (x : α) (L' : List α), popAt (L.map f) a = some (f x, L'.map f) ∧ (x :: L').Perm L := by
  have ha : a.toNat < L.length := by omega
  refine ⟨L[a.toNat], L.eraseIdx a.toNat, ?_, erase_perm ha⟩
  have e : (L.map f).eraseIdx a.toNat = (L.eraseIdx a.toNat).map f := by
    rw [List.eraseIdx_eq_take_drop_succ, List.eraseIdx_eq_take_drop_succ, List.map_append, List.map_take, List.map_drop]
  unfold popAt L2.ixN
  rw [if_pos h0, if_pos (by simpa using h1)]
  show ((L.map f)[a.toNat]?.map fun x => (x, (L.map f).eraseIdx a.toNat)) = _
  rw [List.getElem?_map, List.getElem?_eq_getElem ha, e]; rfl
theorem pops {α : Type} (f : α → PyData) {bnd : PyData → Option Env} {c : Env → M Bool} {e : Env → M PyData} (n : Nat) (items : List PyData) (things : List α) (xs : List PyData) (hx : PotOk n xs) (hi : items.length ≤ things.length) (hl : things.length ≤ 1000)
    (st : ∀ (j : Nat) (x : PyData) (L : List α) (ys : List PyData), items[j]? = some x → L ≠ [] → L.length ≤ 1000 → PotOk (n + j) ys → ∃ E1 a zs, bnd x = some E1 ∧ c E1 [some (.lst ys), some (.lst (L.map f))] = .ok true [some (.lst ys), some (.lst (L.map f))] ∧ 0 ≤ a ∧ a < (L.length : Int) ∧
      (∀ (y : α) (L' : List α), popAt (L.map f) a = some (f y, L'.map f) → e E1 [some (.lst ys), some (.lst (L.map f))] = .ok (f y) [some (.lst zs), some (.lst (L'.map f))]) ∧ PotOk (n + j + 1) zs) :
    ∃ (A L : List α) (zs : List PyData), comprL bnd c e items [] [some (.lst xs), some (.lst (things.map f))] = .ok (A.map f) [some (.lst zs), some (.lst (L.map f))] ∧ (A ++ L).Perm things ∧ A.length = items.length ∧ PotOk (n + items.length) zs := by
  obtain ⟨acc, S', e3, A, L, zs, rfl, rfl, hp, hA, hz⟩ := comprL_inv (bnd := bnd) (c := c) (e := e)
    (fun j acc S => ∃ (A L : List α) (zs : List PyData), acc = A.map f ∧ S = [some (.lst zs), some (.lst (L.map f))] ∧ (A ++ L).Perm things ∧ A.length = j ∧ PotOk (n + j) zs) items 0 [] [some (.lst xs), some (.lst (things.map f))]
    ⟨[], things, xs, rfl, rfl, .refl _, rfl, hx⟩ fun j acc S x _ hx ⟨A, L, zs, ha, hS, hp, hA, hz⟩ => by
      subst ha hS
      have hx : items[j]? = some x := by simpa using hx
      have hj := (List.getElem?_eq_some_iff.mp hx).1
      have hlen := hp.length_eq
      rw [List.length_append] at hlen
      have ne : L ≠ [] := fun z => by rw [z] at hlen; simp at hlen; omega
      obtain ⟨E1, a, ys, e1, e2, a0, a1, e3, p⟩ := st j x L zs hx ne (by omega) hz
      obtain ⟨y, L', e4, p2⟩ := pop_ty f L a a0 a1
      refine ⟨E1, true, _, e1, e2, ?_⟩
      rw [if_pos rfl]
      refine ⟨f y, _, e3 y L' e4, by rw [List.length_map]; show _ < 1000000; omega, A ++ [y], L', ys, by simp, rfl, ?_, by simp [hA], p⟩
      rw [List.append_assoc]
      exact (p2.append_left A).trans hp
  exact ⟨A, L, zs, e3, hp, by omega, hz.mono (by omega)⟩
theorem taken {α : Type} {A L things : List α} (hp : (A ++ L).Perm things) (h : things.Nodup) : A.Nodup ∧ ∀ x ∈ A, x ∈ things := by
  have n := hp.nodup_iff.mpr h
  exact ⟨(List.nodup_append.mp n).1, fun x hx => hp.mem_iff.mp (List.mem_append_left _ hx)⟩
def pool : List Str := ["an", "ann", "b", "bo", "c", "cy", "dee", "emmaemma", "rain", "wet", "z", "zzzzzzzz"]
theorem pool_nm : pool.all nmB = true := by decide +kernel
theorem pool_one : pool.Nodup := by decide +kernel
theorem names (k n : Nat) (xs : List PyData) (many : Int) (h : PotOk n xs) (hn : n ≤ 900000) (h0 : 0 ≤ many) (h1 : many ≤ 12) :
    ∃ (A : List Str) (ys : List PyData), run Fs (k + 2) 20 [.ref 0, .d (.int many)] [some (.lst xs)] = .ok (.lst (A.map PyData.str)) [some (.lst ys)] ∧ A.Nodup ∧ (∀ x ∈ A, Nm x) ∧ (A.length : Int) = many ∧ PotOk (n + 12) ys := by
  obtain ⟨items, hi⟩ := rng_some (lo := 0) (hi := many) (by omega) (by omega) (by omega) (by omega)
  have hlen := rng_len hi
  have pl : pool.length = 12 := rfl
  obtain ⟨A, L, zs, e3, hp, hA, hz⟩ := pops PyData.str (bnd := fun x => bindT (.nm 3) x (wipeE [some (.ref 0), some (.d (.int many)), some (.ref 1), none] [3])) (c := fun E => evT (run Fs (k + 1)) (.cst (.bool true)) E) (e := fun E => datum (ev (run Fs (k + 1)) (.mth .popat (.var 2) (.cons (.call 19 (.cons (.var 0) (.cons (.len (.var 2)) .nil))) .nil)) E))
    n items pool xs h (by omega) (by decide) fun j x L ys _ ne hL hp => by
      have pos : 0 < L.length := List.length_pos_iff.mpr ne
      have hj : n + j ≤ 1000000 := by
        have := (List.getElem?_eq_some_iff.mp ‹_›).1
        omega
      obtain ⟨a, zs, e, a0, a1, p⟩ := take k (n + j) ys (L.length : Int) hp hj (by omega) (by omega)
      exact ⟨_, a, zs, rfl, by simp [lim, startE, execs, exec, ev, evT, evs, evI, M.bind, M.pure, M.lift, val, datum, settle, toDM, toDwM, toD, toDw, cellAt, Vl.asD, binO, addO, cmpO, eqO_int, eqO_str, eqO_b2, ltO, leO, isNone, truthO, lenO, idxO, sliceO, bindO, bindT, bindTs, wipeE, wipes, bltO, asBools, isaO, setM, leave, exitO, callM, callIn, cellsAt, putBack, outBack, alloc, mthM, preM, toDsM, allD, cont, partO, isAbs, optI, itemsO, noExc, atom, smallI], a0, a1, fun y L' q => by simp [lim, startE, execs, exec, ev, evT, evs, evI, M.bind, M.pure, M.lift, val, datum, settle, toDM, toDwM, toD, toDw, cellAt, Vl.asD, binO, addO, cmpO, eqO_int, eqO_str, eqO_b2, ltO, leO, isNone, truthO, lenO, idxO, sliceO, bindO, bindT, bindTs, wipeE, wipes, bltO, asBools, isaO, setM, leave, exitO, callM, callIn, cellsAt, putBack, outBack, alloc, mthM, preM, toDsM, allD, cont, partO, isAbs, optI, itemsO, noExc, atom, smallI, e, q], p⟩
  obtain ⟨t1, t2⟩ := taken hp pool_one
  have c : ev (run Fs (k + 1)) c0__law_names [some (.ref 0), some (.d (.int many)), some (.ref 1), none] [some (.lst xs), some (.lst (pool.map PyData.str))] = .ok (.lst (A.map PyData.str)) [some (.lst zs), some (.lst (L.map PyData.str))] :=
    ev_comp (xs := items) (S1 := [some (.lst xs), some (.lst (pool.map PyData.str))]) (by simp [lim, startE, execs, exec, ev, evT, evs, evI, M.bind, M.pure, M.lift, val, datum, settle, toDM, toDwM, toD, toDw, cellAt, Vl.asD, binO, addO, cmpO, eqO_int, eqO_str, eqO_b2, inO, ltO, leO, isNone, truthO, lenO, idxO, sliceO, bindO, bindT, bindTs, wipeE, wipes, bltO, asBools, isaO, setM, leave, exitO, callM, callIn, cellsAt, putBack, outBack, alloc, mthM, preM, toDsM, allD, cont, partO, isAbs, optI, itemsO, noExc, atom, smallI, hi]) rfl e3
  have c' : ev (run Fs (k + 1)) c0__law_names [some (.ref 0), some (.d (.int many)), some (.ref 1), none] [some (.lst xs), some (.lst [.str "an", .str "ann", .str "b", .str "bo", .str "c", .str "cy", .str "dee", .str "emmaemma", .str "rain", .str "wet", .str "z", .str "zzzzzzzz"])] = .ok (.lst (A.map PyData.str)) [some (.lst zs), some (.lst (L.map PyData.str))] := c
  refine ⟨A, zs, ?_, t1, fun x hx => nmB_nm (List.all_eq_true.mp pool_nm x (t2 x hx)), by omega, hz.mono (by omega)⟩
  rw [run_at (fn := f__law_names) rfl rfl]
  simp [f__law_names, lim, startE, execs, exec, ev, evT, evs, evI, M.bind, M.pure, M.lift, val, datum, settle, toDM, toDwM, toD, toDw, cellAt, Vl.asD, binO, addO, cmpO, eqO_int, eqO_str, eqO_b2, ltO, leO, isNone, truthO, lenO, idxO, sliceO, bindO, bindT, bindTs, wipeE, wipes, bltO, asBools, isaO, setM, leave, exitO, callM, callIn, cellsAt, putBack, outBack, alloc, mthM, preM, toDsM, allD, cont, partO, isAbs, optI, itemsO, noExc, atom, smallI, c']
theorem list_ePs (ps : List Pc) : bltO .list [ePs ps] = some (.lst (ps.map eP)) := rfl
theorem some_ (k n : Nat) (xs : List PyData) (ps : List Pc) (many : Int) (h : PotOk n xs) (hn : n ≤ 900000) (h0 : 0 ≤ many) (h1 : many ≤ 100) (hl : ps.length ≤ 100) (one : ps.Nodup) :
    ∃ (A : List Pc) (ys : List PyData), run Fs (k + 2) 22 [.ref 0, .d (ePs ps), .d (.int many)] [some (.lst xs)] = .ok (.lst (A.map eP)) [some (.lst ys)] ∧ A.Nodup ∧ (∀ x ∈ A, x ∈ ps) ∧ (A.length : Int) = (if (ps.length : Int) < many then (ps.length : Int) else many) ∧ PotOk (n + 100) ys := by
  obtain ⟨m, m0, m1, m2, hm⟩ : ∃ m : Int, 0 ≤ m ∧ m ≤ ps.length ∧ m ≤ 100 ∧ (if (ps.length : Int) < many then (ps.length : Int) else many) = m := ⟨_, by split <;> omega, by split <;> omega, by split <;> omega, rfl⟩
  obtain ⟨items, hi⟩ := rng_some (lo := 0) (hi := m) (by omega) (by omega) (by omega) (by omega)
  have hlen := rng_len hi
  obtain ⟨A, L, zs, e3, hp, hA, hz⟩ := pops eP (bnd := fun x => bindT (.nm 4) x (wipeE [some (.ref 0), some (.d (ePs ps)), some (.d (.int many)), some (.ref 1), none] [4])) (c := fun E => evT (run Fs (k + 1)) (.cst (.bool true)) E) (e := fun E => datum (ev (run Fs (k + 1)) (.mth .popat (.var 3) (.cons (.call 19 (.cons (.var 0) (.cons (.len (.var 3)) .nil))) .nil)) E))
    n items ps xs h (by omega) (by omega) fun j x L ys _ ne hL hp => by
      have pos : 0 < L.length := List.length_pos_iff.mpr ne
      have hj : n + j ≤ 1000000 := by
        have := (List.getElem?_eq_some_iff.mp ‹_›).1
        omega
      obtain ⟨a, zs, e, a0, a1, p⟩ := take k (n + j) ys (L.length : Int) hp hj (by omega) (by omega)
      exact ⟨_, a, zs, rfl, by simp [lim, startE, execs, exec, ev, evT, evs, evI, M.bind, M.pure, M.lift, val, datum, settle, toDM, toDwM, toD, toDw, cellAt, Vl.asD, binO, addO, cmpO, eqO_int, eqO_str, eqO_b2, ltO, leO, isNone, truthO, lenO, idxO, sliceO, bindO, bindT, bindTs, wipeE, wipes, bltO, asBools, isaO, setM, leave, exitO, callM, callIn, cellsAt, putBack, outBack, alloc, mthM, preM, toDsM, allD, cont, partO, isAbs, optI, itemsO, noExc, atom, smallI], a0, a1, fun y L' q => by simp [lim, startE, execs, exec, ev, evT, evs, evI, M.bind, M.pure, M.lift, val, datum, settle, toDM, toDwM, toD, toDw, cellAt, Vl.asD, binO, addO, cmpO, eqO_int, eqO_str, eqO_b2, ltO, leO, isNone, truthO, lenO, idxO, sliceO, bindO, bindT, bindTs, wipeE, wipes, bltO, asBools, isaO, setM, leave, exitO, callM, callIn, cellsAt, putBack, outBack, alloc, mthM, preM, toDsM, allD, cont, partO, isAbs, optI, itemsO, noExc, atom, smallI, e, q], p⟩
  obtain ⟨t1, t2⟩ := taken hp one
  have c : ev (run Fs (k + 1)) c0__law_some [some (.ref 0), some (.d (ePs ps)), some (.d (.int many)), some (.ref 1), none] [some (.lst xs), some (.lst (ps.map eP))] = .ok (.lst (A.map eP)) [some (.lst zs), some (.lst (L.map eP))] :=
    ev_comp (xs := items) (S1 := [some (.lst xs), some (.lst (ps.map eP))]) (by simp [lim, startE, execs, exec, ev, evT, evs, evI, M.bind, M.pure, M.lift, val, datum, settle, toDM, toDwM, toD, toDw, cellAt, Vl.asD, binO, addO, cmpO, eqO_int, eqO_str, eqO_b2, inO, ltO, leO, isNone, truthO, lenO, idxO, sliceO, bindO, bindT, bindTs, wipeE, wipes, bltO, asBools, isaO, setM, leave, exitO, callM, callIn, cellsAt, putBack, outBack, alloc, mthM, preM, toDsM, allD, cont, partO, isAbs, optI, itemsO, noExc, atom, smallI, hm, hi]) rfl e3
  refine ⟨A, zs, ?_, t1, t2, by rw [hm]; omega, hz.mono (by omega)⟩
  rw [run_at (fn := f__law_some) rfl rfl]
  simp [f__law_some, lim, startE, execs, exec, ev, evT, evs, evI, M.bind, M.pure, M.lift, val, datum, settle, toDM, toDwM, toD, toDw, cellAt, Vl.asD, binO, addO, cmpO, eqO_int, eqO_str, eqO_b2, ltO, leO, isNone, truthO, lenO, idxO, sliceO, bindO, bindT, bindTs, wipeE, wipes, asBools, isaO, setM, leave, exitO, callM, callIn, cellsAt, putBack, outBack, alloc, mthM, preM, toDsM, allD, cont, partO, isAbs, optI, itemsO, noExc, atom, smallI, list_ePs, c]

end Lf

set_option Elab.async false
set_option linter.all false
set_option maxRecDepth 100000
set_option maxHeartbeats 4000000
set_option exponentiation.threshold 4000
namespace Lf
open PySem PySem.Spec PyProof.Rows L2
/-! ### places, rules -/
theorem at_ty {α : Type} (f : α → PyData) {xs : List α} {v : Int} (h0 : 0 ≤ v) (h1 : v < xs.length) : ∃ x ∈ xs, L2.atI (xs.map f) v = some (f x) := by
  obtain ⟨z, hz, hm⟩ := at_mem (xs := xs.map f) h0 (by simpa using h1)
  obtain ⟨x, hx, rfl⟩ := List.mem_map.mp hm
  exact ⟨x, hx, hz⟩
/-- places as they are drawn -/
structure PsOk (ps : List Pc) : Prop where
  pc : ∀ p ∈ ps, PcOk p
  one : ps.Nodup
  l1 : 1 ≤ ps.length
  l2 : ps.length ≤ 16
  few : ∃ Hs : List Str, Hs.length ≤ 4 ∧ ∀ p ∈ ps, p.1 ∈ Hs
def prod (Hs Sg : List Str) : List Pc := Hs.flatMap fun h => Sg.map fun s => (h, s)
theorem prod_len (Hs Sg : List Str) : (prod Hs Sg).length = Hs.length * Sg.length := by
  induction Hs with
  | nil => simp [prod]
  | cons a Hs ih =>
    show ((Sg.map fun s => (a, s)) ++ prod Hs Sg).length = _
    rw [List.length_append, ih, List.length_map, List.length_cons, Nat.succ_mul]; omega
theorem prod_mem {Hs Sg : List Str} {p : Pc} (h : p ∈ prod Hs Sg) : p.1 ∈ Hs ∧ p.2 ∈ Sg := by
  obtain ⟨a, ha, h⟩ := List.mem_flatMap.mp h
  obtain ⟨b, hb, rfl⟩ := List.mem_map.mp h
  exact ⟨ha, hb⟩
theorem prod_one {Hs Sg : List Str} (h : Hs.Nodup) (s : Sg.Nodup) : (prod Hs Sg).Nodup := by
  induction Hs with
  | nil => exact .nil
  | cons a Hs ih =>
    rw [List.nodup_cons] at h
    show ((Sg.map fun s => (a, s)) ++ prod Hs Sg).Nodup
    rw [List.nodup_append]
    refine ⟨?_, ih h.2, fun p hp q hq e => ?_⟩
    · rw [List.nodup_iff_pairwise_ne, List.pairwise_map]
      exact (List.nodup_iff_pairwise_ne.mp s).imp fun {x y} ne e => ne (by simpa using e)
    · obtain ⟨b, hb, rfl⟩ := List.mem_map.mp hp
      subst e
      exact h.1 (prod_mem hq).1
theorem prod_app (A B Sg : List Str) : prod (A ++ B) Sg = prod A Sg ++ prod B Sg := by simp [prod]
theorem c0_places {C : CallT} {Sg : List Str} {h : Str} {w0 w2 : Option Vl} {S : Store} (hl : Sg.length ≤ 1000) :
    ev C c0__law_places [w0, some (.d (.list (Sg.map PyData.str))), w2, some (.d (.str h)), none] S = .ok (.lst ((Sg.map fun s => (h, s)).map eP)) S := by
  rw [List.map_map]
  exact comp_all (enc := PyData.str) (fun s => eP (h, s)) (by simp [lim, startE, execs, exec, ev, evT, evs, evI, M.bind, M.pure, M.lift, val, datum, settle, toDM, toDwM, toD, toDw, cellAt, Vl.asD, binO, addO, cmpO, eqO_int, eqO_str, eqO_b2, ltO, leO, isNone, truthO, lenO, idxO, sliceO, bindO, bindT, bindTs, wipeE, wipes, bltO, asBools, isaO, setM, leave, exitO, callM, callIn, cellsAt, putBack, outBack, alloc, mthM, preM, toDsM, allD, cont, partO, isAbs, optI, itemsO, noExc, atom, smallI]) rfl (by show _ ≤ 1000000; omega) fun s _ => ⟨_, rfl, by simp [lim, startE, execs, exec, ev, evT, evs, evI, M.bind, M.pure, M.lift, val, datum, settle, toDM, toDwM, toD, toDw, cellAt, Vl.asD, binO, addO, cmpO, eqO_int, eqO_str, eqO_b2, ltO, leO, isNone, truthO, lenO, idxO, sliceO, bindO, bindT, bindTs, wipeE, wipes, bltO, asBools, isaO, setM, leave, exitO, callM, callIn, cellsAt, putBack, outBack, alloc, mthM, preM, toDsM, allD, cont, partO, isAbs, optI, itemsO, noExc, atom, smallI, eP_mk]⟩
theorem places (k n : Nat) (xs : List PyData) (h : PotOk n xs) (hn : n ≤ 800000) : ∃ (ps : List Pc) (ys : List PyData), run Fs (k + 3) 21 [.ref 0] [some (.lst xs)] = .ok (.lst (ps.map eP)) [some (.lst ys)] ∧ PsOk ps ∧ PotOk (n + 30) ys := by
  obtain ⟨v, x1, e1, v0, v1, p1⟩ := take (k + 1) n xs 4 h (by omega) (by decide) (by decide)
  obtain ⟨Sg, x2, e2, s1, s2, s3, p2⟩ := names k (n + 1) x1 (1 + v) p1 (by omega) (by omega) (by omega)
  obtain ⟨u, x3, e3, u0, u1, p3⟩ := take (k + 1) _ x2 4 p2 (by omega) (by decide) (by decide)
  obtain ⟨Hs, x4, e4, h1, h2, h3, p4⟩ := names k _ x3 (1 + u) p3 (by omega) (by omega) (by omega)
  obtain ⟨E', S', e5, w3, rfl, rfl⟩ := loopL_inv (bnd := fun x E => bindT (.nm 3) x E) (b := fun E => execs (run Fs (k + 2)) b1__law_places E)
    (fun j E S => ∃ w, E = [some (.ref 0), some (.d (.list (Sg.map PyData.str))), some (.ref 1), w, none] ∧ S = [some (.lst x4), some (.lst ((prod (Hs.take j) Sg).map eP))]) (Hs.map PyData.str) 0 [some (.ref 0), some (.d (.list (Sg.map PyData.str))), some (.ref 1), none, none] [some (.lst x4), some (.lst [])]
    ⟨none, rfl, by simp [prod]⟩ fun j E S x _ hx ⟨w, hE, hS⟩ => by
      subst hE hS
      have hx : (Hs.map PyData.str)[j]? = some x := by simpa using hx
      rw [List.getElem?_map, Option.map_eq_some_iff] at hx
      obtain ⟨a, ha, rfl⟩ := hx
      have hj := (List.getElem?_eq_some_iff.mp ha).1
      have c := fun w0 w2 S => c0_places (C := run Fs (k + 2)) (Sg := Sg) (h := a) (w0 := w0) (w2 := w2) (S := S) (by omega)
      have hl : (prod (Hs.take j) Sg).length + Sg.length ≤ 1000000 := by
        rw [prod_len, List.length_take]
        have : min j Hs.length * Sg.length ≤ 4 * 4 := Nat.mul_le_mul (by omega) (by omega)
        omega
      refine ⟨_, (.nx, [some (.ref 0), some (.d (.list (Sg.map PyData.str))), some (.ref 1), some (.d (.str a)), none]), _, rfl, ?_, .inl rfl, _, rfl, rfl⟩
      have e : prod (Hs.take (j + 1)) Sg = prod (Hs.take j) Sg ++ Sg.map fun s => (a, s) := by
        rw [List.take_succ, ha, prod_app]; simp [prod]
      rw [e]
      rw [List.map_append]
      have hL : ((Sg.map fun s => (a, s)).map eP).length = Sg.length := by simp
      generalize ((Sg.map fun s => (a, s)).map eP) = L at c hL
      have hl' : (prod (Hs.take j) Sg).length + L.length ≤ 1000000 := by omega
      simp [b1__law_places, lim, startE, execs, exec, ev, evT, evs, evI, M.bind, M.pure, M.lift, val, datum, settle, toDM, toDwM, toD, toDw, cellAt, Vl.asD, binO, addO, cmpO, eqO_int, eqO_str, eqO_b2, ltO, leO, isNone, truthO, lenO, idxO, sliceO, bindO, bindT, bindTs, wipeE, wipes, bltO, asBools, isaO, setM, leave, exitO, callM, callIn, cellsAt, putBack, outBack, alloc, mthM, preM, toDsM, allD, cont, partO, isAbs, optI, itemsO, noExc, atom, smallI, c, hl']
  have e6 : Hs.take (0 + (Hs.map PyData.str).length) = Hs := by simp
  rw [e6] at e5
  have it : evI (run Fs (k + 2)) (.x (.call 20 (.cons (.var 0) (.cons (.bin .add (.cst (.int 1)) (.call 19 (.cons (.var 0) (.cons (.cst (.int 4)) .nil)))) .nil)))) [some (.ref 0), some (.d (.list (Sg.map PyData.str))), some (.ref 1), none, none] [some (.lst x2), some (.lst [])] = .ok (Hs.map PyData.str) [some (.lst x4), some (.lst [])] := by
    simp [lim, startE, execs, exec, ev, evT, evs, evI, M.bind, M.pure, M.lift, val, datum, settle, toDM, toDwM, toD, toDw, cellAt, Vl.asD, binO, addO, cmpO, eqO_int, eqO_str, eqO_b2, ltO, leO, isNone, truthO, lenO, idxO, sliceO, bindO, bindT, bindTs, wipeE, wipes, bltO, asBools, isaO, setM, leave, exitO, callM, callIn, cellsAt, putBack, outBack, alloc, mthM, preM, toDsM, allD, cont, partO, isAbs, optI, itemsO, noExc, atom, smallI, e3, e4]
  have lp := exec_loop (b := b1__law_places) it e5
  have lp : exec (run Fs (k + 2)) l2__law_places _ _ = _ := lp
  have len : (prod Hs Sg).length ≤ 4 * 4 := by rw [prod_len]; exact Nat.mul_le_mul (by omega) (by omega)
  have len1 : 1 * 1 ≤ (prod Hs Sg).length := by rw [prod_len]; exact Nat.mul_le_mul (by omega) (by omega)
  refine ⟨prod Hs Sg, x4, ?_, ⟨fun p hp => ⟨h2 _ (prod_mem hp).1, s2 _ (prod_mem hp).2⟩, prod_one h1 s1, by omega, by omega, Hs, by omega, fun p hp => (prod_mem hp).1⟩, p4.mono (by omega)⟩
  rw [run_at (fn := f__law_places) rfl rfl]
  simp [f__law_places, lim, startE, execs, exec, ev, evT, evs, evI, M.bind, M.pure, M.lift, val, datum, settle, toDM, toDwM, toD, toDw, cellAt, Vl.asD, binO, addO, cmpO, eqO_int, eqO_str, eqO_b2, ltO, leO, isNone, truthO, lenO, idxO, sliceO, bindO, bindT, bindTs, wipeE, wipes, bltO, asBools, isaO, setM, leave, exitO, callM, callIn, cellsAt, putBack, outBack, alloc, mthM, preM, toDsM, allD, cont, partO, isAbs, optI, itemsO, noExc, atom, smallI, e1, e2, lp]
theorem bind_eP (ts : Tgs) (p : Pc) (E : Env) : bindO (.tp ts) (.val (.d (eP p))) E = bindTs ts [.str p.1, .str p.2] E := rfl
theorem len_list (xs : List PyData) : lenO (.list xs) = some xs.length := rfl
theorem len_ePs (ps : List Pc) : lenO (ePs ps) = some ps.length := by simp [lenO, ePs]
theorem bi_add (i j : Int) : binO .add (.int i) (.int j) = some (.val (.d (.int (i + j)))) := rfl
theorem bi_sub (i j : Int) : binO .sub (.int i) (.int j) = some (.val (.d (.int (i - j)))) := rfl
theorem bi_pow7 : binO .pow (.int 10) (.int 7) = some (.val (.d (.int 10000000))) := by simp [binO, t10]
theorem bi_mulpow : binO .pow (.int 10) (.int 8) = some (.val (.d (.int 100000000))) := by simp [binO, t10]
theorem bi_list {xs ys : List PyData} (h : xs.length + ys.length ≤ lim) : binO .add (.list xs) (.list ys) = some (.lst (xs ++ ys)) := by
  show (if xs.length + ys.length ≤ lim then some (Out.lst (xs ++ ys)) else none) = _
  rw [if_pos h]
theorem bi_eP (p : Pc) (c : Int) (q : Pc) : binO .add (eP p) (.tuple [.int c, .list [eP q]]) = some (.val (.d (eR ⟨p.1, p.2, c, [q]⟩))) := by
  show (if 2 + 2 ≤ lim then some (Out.val (.d (.tuple [.str p.1, .str p.2, .int c, .list [eP q]]))) else none) = _
  rw [if_pos (by decide)]; rfl
theorem cost_ (k n : Nat) (xs : List PyData) (h : PotOk n xs) (hn : n ≤ 900000) : ∃ (c : Int) (ys : List PyData), run Fs (k + 2) 23 [.ref 0] [some (.lst xs)] = .ok (.val (.d (.int c))) [some (.lst ys)] ∧ 1 ≤ c ∧ c ≤ 10 ^ 7 ∧ PotOk (n + 3) ys := by
  obtain ⟨v, x1, e1, v0, v1, p1⟩ := take k n xs 4 h (by omega) (by decide) (by decide)
  obtain ⟨u, x2, e2, u0, u1, p2⟩ := take k _ x1 10000000 p1 (by omega) (by decide) (by decide)
  obtain ⟨i, x3, e3, i0, i1, p3⟩ := take k _ x2 4 p2 (by omega) (by decide) (by decide)
  obtain ⟨z, hz, hm⟩ := at_mem (xs := [PyData.int 1, .int 1, .int (1 + v), .int (1 + u)]) i0 (by exact i1)
  have hz : idxO (.list [PyData.int 1, .int 1, .int (1 + v), .int (1 + u)]) (.int i) = some z := hz
  obtain ⟨c, rfl, c0, c1⟩ : ∃ c, z = .int c ∧ 1 ≤ c ∧ c ≤ 10 ^ 7 := by
    simp only [List.mem_cons, List.not_mem_nil, or_false] at hm
    rcases hm with rfl | rfl | rfl | rfl <;> exact ⟨_, rfl, by omega, by omega⟩
  refine ⟨c, x3, ?_, c0, c1, p3⟩
  rw [run_at (fn := f__law_cost) rfl rfl]
  simp [f__law_cost, lim, startE, execs, exec, ev, evT, evs, evI, M.bind, M.pure, M.lift, val, datum, settle, toDM, toDwM, toD, toDw, cellAt, Vl.asD, cmpO, eqO_int, eqO_str, eqO_b2, ltO, leO, isNone, truthO, bindT, bindTs, wipeE, wipes, bltO, asBools, isaO, setM, leave, exitO, callM, callIn, cellsAt, putBack, outBack, alloc, mthM, preM, toDsM, allD, cont, partO, isAbs, optI, itemsO, noExc, atom, smallI, idx_eW0, idx_eW1, idx_eW2, idx_eL0, idx_eL1, idx_eL2, idx_eL3, idx_eR3, idx_eRow, idx_cons0, cut_eR, bindO.eq_1, bind_eP, bind_eW, len_list, len_ePs, bi_add, bi_sub, bi_mulpow, bi_pow7, e1, e2, e3, hz]
theorem round_ (k n : Nat) (xs : List PyData) (ps : List Pc) (h : PotOk n xs) (hn : n ≤ 700000) (hp : PsOk ps) :
    ∃ (R : List Ru) (ys : List PyData), run Fs (k + 4) 24 [.ref 0, .d (ePs ps)] [some (.lst xs)] = .ok (.lst (R.map eR)) [some (.lst ys)] ∧ (∀ r ∈ R, RuOk r) ∧ R.length ≤ 6 ∧ PotOk (n + 200) ys := by
  have l1 := hp.l1
  have l2 := hp.l2
  obtain ⟨v, x1, e1, v0, v1, p1⟩ := take (k + 2) n xs 6 h (by omega) (by decide) (by decide)
  obtain ⟨A, x2, e2, a1, a2, a3, p2⟩ := some_ (k + 1) _ x1 ps (1 + v) p1 (by omega) (by omega) (by omega) (by omega) hp.one
  have al : A.length ≤ 6 := by split at a3 <;> omega
  obtain ⟨items, hi⟩ := rng_some (lo := 0) (hi := (A.length : Int)) (by omega) (by omega) (by omega) (by omega)
  have hlen := rng_len hi
  obtain ⟨L, S', e3, R, ys, rfl, rfl, hR, hj, hz⟩ := comprL_inv (bnd := fun x => bindT (.nm 3) x (wipeE [some (.ref 0), some (.d (ePs ps)), some (.d (ePs A)), none] [3])) (c := fun E => evT (run Fs (k + 3)) (.cst (.bool true)) E) (e := fun E => datum (ev (run Fs (k + 3)) (.bin .add (.idx (.var 2) (.var 3)) (.tup (.cons (.call 23 (.cons (.var 0) .nil)) (.cons (.dis (.cons (.idx (.var 2) (.bin .sub (.var 3) (.cst (.int 1)))) .nil)) .nil)))) E))
    (fun j acc S => ∃ (R : List Ru) (ys : List PyData), acc = R.map eR ∧ S = [some (.lst ys)] ∧ (∀ r ∈ R, RuOk r) ∧ R.length = j ∧ PotOk (n + 101 + 3 * j) ys) items 0 [] [some (.lst x2)]
    ⟨[], x2, rfl, rfl, nofun, rfl, p2.mono (by omega)⟩ fun j acc S x _ hx ⟨R, ys, ha, hS, hR, hj, hz⟩ => by
      subst ha hS
      have hx : items[j]? = some x := by simpa using hx
      have hjl := (List.getElem?_eq_some_iff.mp hx).1
      have hxj := rng_at hi hx
      subst hxj
      have ja : j < A.length := by omega
      obtain ⟨c, zs, e4, c0, c1, p3⟩ := cost_ (k + 1) _ ys hz (by omega)
      obtain ⟨p, pm, i1⟩ := at_ty eP (xs := A) (v := 0 + (j : Int)) (by omega) (by omega)
      have i1 : idxO (ePs A) (.int (0 + (j : Int))) = some (eP p) := i1
      obtain ⟨q, qm, i2⟩ : ∃ q ∈ A, idxO (ePs A) (.int (0 + (j : Int) - 1)) = some (eP q) := by
        by_cases j0 : j = 0
        · subst j0
          have ne : A ≠ [] := fun z => by rw [z] at ja; cases ja
          refine ⟨A.getLast ne, List.getLast_mem ne, ?_⟩
          have := at_last (A.map eP) (by simpa using ne)
          rw [List.getLast_map] at this
          exact this
        · obtain ⟨q, qm, i2⟩ := at_ty eP (xs := A) (v := 0 + (j : Int) - 1) (by omega) (by omega)
          exact ⟨q, qm, i2⟩
      have pk := hp.pc p (a2 p pm)
      have qk := hp.pc q (a2 q qm)
      have be := bi_eP p c q
      simp only [Int.zero_add] at i1 i2
      refine ⟨_, true, [some (.lst ys)], rfl, rfl, ?_⟩
      rw [if_pos rfl]
      refine ⟨eR ⟨p.1, p.2, c, [q]⟩, [some (.lst zs)], ?_, by rw [List.length_map]; show _ < 1000000; omega, R ++ [⟨p.1, p.2, c, [q]⟩], zs, by simp, rfl, fun r hr => ?_, by simp [hj], p3.mono (by omega)⟩
      · simp [lim, startE, execs, exec, ev, evT, evs, evI, M.bind, M.pure, M.lift, val, datum, settle, toDM, toDwM, toD, toDw, cellAt, Vl.asD, cmpO, eqO_int, eqO_str, eqO_b2, ltO, leO, isNone, truthO, bindT, bindTs, wipeE, wipes, bltO, asBools, isaO, setM, leave, exitO, callM, callIn, cellsAt, putBack, outBack, alloc, mthM, preM, toDsM, allD, cont, partO, isAbs, optI, itemsO, noExc, atom, smallI, idx_eW0, idx_eW1, idx_eW2, idx_eL0, idx_eL1, idx_eL2, idx_eL3, idx_eR3, idx_eRow, idx_cons0, cut_eR, bindO.eq_1, bind_eP, bind_eW, len_list, len_ePs, bi_add, bi_sub, bi_mulpow, bi_pow7, i1, i2, e4, be]
      · rcases List.mem_append.mp hr with hr | hr
        · exact hR r hr
        · rw [List.mem_singleton.mp hr]
          exact ⟨pk.a, pk.b, c0, by show c ≤ 10 ^ 9; omega, fun t ht => by rw [List.mem_singleton.mp ht]; exact qk, List.nodup_cons.mpr ⟨by simp, .nil⟩, Nat.le_refl _, by simp⟩
  have it : evI (run Fs (k + 3)) (.rng (.len (.var 2))) [some (.ref 0), some (.d (ePs ps)), some (.d (ePs A)), none] [some (.lst x2)] = .ok items [some (.lst x2)] := by
    refine evI_rng (i := (A.length : Int)) ?_ hi
    simp [lim, startE, execs, exec, ev, evT, evs, evI, M.bind, M.pure, M.lift, val, datum, settle, toDM, toDwM, toD, toDw, cellAt, Vl.asD, cmpO, eqO_int, eqO_str, eqO_b2, ltO, leO, isNone, truthO, bindT, bindTs, wipeE, wipes, bltO, asBools, isaO, setM, leave, exitO, callM, callIn, cellsAt, putBack, outBack, alloc, mthM, preM, toDsM, allD, cont, partO, isAbs, optI, itemsO, noExc, atom, smallI, idx_eW0, idx_eW1, idx_eW2, idx_eL0, idx_eL1, idx_eL2, idx_eL3, idx_eR3, idx_eRow, idx_cons0, cut_eR, bindO.eq_1, bind_eP, bind_eW, len_list, len_ePs, bi_add, bi_sub, bi_mulpow, bi_pow7]
  have c := ev_comp it rfl e3
  have c : ev (run Fs (k + 3)) c0__law_round _ _ = _ := c
  refine ⟨R, ys, ?_, hR, by omega, hz.mono (by omega)⟩
  have ea : PyData.list (A.map eP) = ePs A := rfl
  rw [run_at (fn := f__law_round) rfl rfl]
  simp [f__law_round, lim, startE, execs, exec, ev, evT, evs, evI, M.bind, M.pure, M.lift, val, datum, settle, toDM, toDwM, toD, toDw, cellAt, Vl.asD, cmpO, eqO_int, eqO_str, eqO_b2, ltO, leO, isNone, truthO, bindT, bindTs, wipeE, wipes, bltO, asBools, isaO, setM, leave, exitO, callM, callIn, cellsAt, putBack, outBack, alloc, mthM, preM, toDsM, allD, cont, partO, isAbs, optI, itemsO, noExc, atom, smallI, idx_eW0, idx_eW1, idx_eW2, idx_eL0, idx_eL1, idx_eL2, idx_eL3, idx_eR3, idx_eRow, idx_cons0, cut_eR, bindO.eq_1, bind_eP, bind_eW, len_list, len_ePs, bi_add, bi_sub, bi_mulpow, bi_pow7, e1, e2, ea, c]

end Lf

set_option Elab.async false
set_option linter.all false
set_option maxRecDepth 100000
set_option maxHeartbeats 4000000
set_option exponentiation.threshold 4000
namespace Lf
open PySem PySem.Spec PyProof.Rows L2
/-! ### roads -/
theorem cut_fromI {α : Type} (xs : List α) {v : Int} (h : 0 ≤ v) : cutL xs (some v) none = xs.drop v.toNat := by
  unfold cutL
  have e1 : HT.sIx xs.length 0 (some v) = min v.toNat xs.length := by
    show (if v < 0 then (v + (xs.length : Int)).toNat else min v.toNat xs.length) = _
    rw [if_neg (by omega)]
  have e2 : HT.sIx xs.length xs.length none = xs.length := rfl
  rw [e1, e2]
  by_cases c : v.toNat ≤ xs.length
  · rw [Nat.min_eq_left c]
    exact List.take_of_length_le (by rw [List.length_drop]; omega)
  · rw [Nat.min_eq_right (by omega), List.drop_of_length_le (Nat.le_refl _), List.drop_of_length_le (by omega)]
    simp
theorem cut_toI {α : Type} (xs : List α) {v : Int} (h : 0 ≤ v) : cutL xs none (some v) = xs.take v.toNat := by
  unfold cutL
  have e1 : HT.sIx xs.length 0 none = 0 := rfl
  have e2 : HT.sIx xs.length xs.length (some v) = min v.toNat xs.length := by
    show (if v < 0 then (v + (xs.length : Int)).toNat else min v.toNat xs.length) = _
    rw [if_neg (by omega)]
  rw [e1, e2, List.drop_zero, Nat.sub_zero]
  by_cases c : v.toNat ≤ xs.length
  · rw [Nat.min_eq_left c]
  · rw [Nat.min_eq_right (by omega), List.take_of_length_le (Nat.le_refl _), List.take_of_length_le (by omega)]
theorem asStrs_fst (ps : List Pc) : asStrs (ps.map fun p => PyData.str p.1) = some (ps.map (·.1)) := by
  induction ps with
  | nil => rfl
  | cons p ps ih => simp [asStrs, ih]
theorem sub_len {α : Type} [DecidableEq α] : ∀ {xs ys : List α}, xs.Nodup → (∀ x ∈ xs, x ∈ ys) → xs.length ≤ ys.length
  | [], _, _, _ => Nat.zero_le _
  | x :: xs, ys, n, h => by
    rw [List.nodup_cons] at n
    have hx := h x List.mem_cons_self
    have := sub_len (ys := ys.erase x) n.2 fun y hy => (List.mem_erase_of_ne (fun e => n.1 (by rw [← e]; exact hy))).mpr (h y (List.mem_cons_of_mem _ hy))
    rw [List.length_erase_of_mem hx] at this
    have pos := List.length_pos_of_mem hx
    simp only [List.length_cons]
    omega
/-- unlike hands in order -/
structure HsOk (hs : List Str) : Prop where
  nm : ∀ x ∈ hs, Nm x
  up : hs.Pairwise fun a b => a.cps.toList < b.cps.toList
  l : hs.length ≤ 4
theorem HsOk.one {hs : List Str} (h : HsOk hs) : hs.Nodup := List.nodup_iff_pairwise_ne.mpr (h.up.imp fun {a b} l e => absurd (e ▸ l) (List.lt_irrefl _))
theorem hands_ok {ps : List Pc} (h : PsOk ps) : HsOk (sortS (uniq (ps.map (·.1)))) := by
  have pm := sortS_perm (uniq (ps.map (·.1)))
  have one : (sortS (uniq (ps.map (·.1)))).Nodup := pm.nodup_iff.mpr (uniq_nodup _)
  refine ⟨fun x hx => ?_, ?_, ?_⟩
  · obtain ⟨p, hp, rfl⟩ := List.mem_map.mp (mem_uniq.mp (pm.mem_iff.mp hx))
    exact (h.pc p hp).a
  · refine ((sortS_pw _).and (List.nodup_iff_pairwise_ne.mp one)).imp fun {a b} ⟨le, ne⟩ => ?_
    exact Classical.byContradiction fun nl => ne (str_ext (le_anti_l le nl))
  · obtain ⟨Hs, hl, hm⟩ := h.few
    rw [pm.length_eq]
    refine Nat.le_trans (sub_len (uniq_nodup _) fun x hx => ?_) hl
    obtain ⟨p, hp, rfl⟩ := List.mem_map.mp (mem_uniq.mp hx)
    exact hm p hp
theorem c0_roads {C : CallT} {ps : List Pc} {w0 w2 w5 w6 w7 w8 : Option Vl} {S : Store} (hl : ps.length ≤ 1000) :
    ev C c0__law_roads [w0, some (.d (ePs ps)), w2, none, none, w5, w6, w7, w8] S = .ok (.lst (ps.map fun p => .str p.1)) S :=
  comp_all (enc := eP) (fun p => .str p.1) (by simp [lim, startE, execs, exec, ev, evT, evs, evI, M.bind, M.pure, M.lift, val, datum, settle, toDM, toDwM, toD, toDw, cellAt, Vl.asD, binO, addO, cmpO, eqO_int, eqO_str, eqO_b2, ltO, leO, isNone, truthO, lenO, idxO, sliceO, bindO, bindT, bindTs, wipeE, wipes, bltO, asBools, isaO, setM, leave, exitO, callM, callIn, cellsAt, putBack, outBack, alloc, mthM, preM, toDsM, allD, cont, partO, isAbs, optI, itemsO, noExc, atom, smallI, ePs]) rfl (by show _ ≤ 1000000; omega) fun p _ => ⟨_, rfl, by simp [lim, startE, execs, exec, ev, evT, evs, evI, M.bind, M.pure, M.lift, val, datum, settle, toDM, toDwM, toD, toDw, cellAt, Vl.asD, binO, addO, cmpO, eqO_int, eqO_str, eqO_b2, ltO, leO, isNone, truthO, lenO, idxO, sliceO, bindO, bindT, bindTs, wipeE, wipes, bltO, asBools, isaO, setM, leave, exitO, callM, callIn, cellsAt, putBack, outBack, alloc, mthM, preM, toDsM, allD, cont, partO, isAbs, optI, itemsO, noExc, atom, smallI]⟩
theorem c1_roads (k n : Nat) (xs : List PyData) (hs : List Str) (j : Nat) (a : Str) (o : Int) (F : Cell) (h : PotOk n xs) (hn : n ≤ 900000) (hl : hs.length ≤ 4) (w1 w4 w6 : Option Vl) :
    ∃ (B : List Str) (ys : List PyData), ev (run Fs (k + 1)) c1__law_roads [some (.ref 0), w1, some (.d (.list (hs.map PyData.str))), some (.d (.str a)), w4, some (.d (.int o)), w6, some (.d (.int (j : Int))), none] [some (.lst xs), some F] = .ok (.lst ((B.map fun b => (a, b)).map eP)) [some (.lst ys), some F] ∧
      B.Sublist (hs.drop (j + 1)) ∧ PotOk (n + 4) ys := by
  have dl : (hs.drop (j + 1)).length ≤ 4 := by rw [List.length_drop]; omega
  obtain ⟨L, S', e3, B, ys, rfl, rfl, hB, hz⟩ := comprL_inv (bnd := fun x => bindT (.nm 8) x (wipeE [some (.ref 0), w1, some (.d (.list (hs.map PyData.str))), some (.d (.str a)), w4, some (.d (.int o)), w6, some (.d (.int (j : Int))), none] [8])) (c := fun E => evT (run Fs (k + 1)) (.cmp .lt (.call 19 (.cons (.var 0) (.cons (.cst (.int 4)) .nil))) (.var 5)) E) (e := fun E => datum (ev (run Fs (k + 1)) (.tup (.cons (.var 3) (.cons (.var 8) .nil))) E))
    (fun i acc S => ∃ (B : List Str) (ys : List PyData), acc = (B.map fun b => (a, b)).map eP ∧ S = [some (.lst ys), some F] ∧ B.Sublist ((hs.drop (j + 1)).take i) ∧ PotOk (n + i) ys) ((hs.drop (j + 1)).map PyData.str) 0 [] [some (.lst xs), some F]
    ⟨[], xs, rfl, rfl, List.nil_sublist _, h⟩ fun i acc S x _ hx ⟨B, ys, ha, hS, hB, hz⟩ => by
      subst ha hS
      have hx : ((hs.drop (j + 1)).map PyData.str)[i]? = some x := by simpa using hx
      rw [List.getElem?_map, Option.map_eq_some_iff] at hx
      obtain ⟨b, hb, rfl⟩ := hx
      have hi := (List.getElem?_eq_some_iff.mp hb).1
      obtain ⟨v, zs, e, v0, v1, p⟩ := take k (n + i) ys 4 hz (by omega) (by decide) (by decide)
      have tk : (hs.drop (j + 1)).take (i + 1) = (hs.drop (j + 1)).take i ++ [b] := by rw [List.take_succ, hb]; rfl
      refine ⟨_, decide (v < o), [some (.lst zs), some F], rfl, by simp [lim, startE, execs, exec, ev, evT, evs, evI, M.bind, M.pure, M.lift, val, datum, settle, toDM, toDwM, toD, toDw, cellAt, Vl.asD, binO, addO, cmpO, eqO_int, eqO_str, eqO_b2, ltO, leO, isNone, truthO, lenO, idxO, sliceO, bindO, bindT, bindTs, wipeE, wipes, bltO, asBools, isaO, setM, leave, exitO, callM, callIn, cellsAt, putBack, outBack, alloc, mthM, preM, toDsM, allD, cont, partO, isAbs, optI, itemsO, noExc, atom, smallI, e], ?_⟩
      have bl := hB.length_le
      by_cases c : v < o
      · rw [decide_eq_true c, if_pos rfl]
        refine ⟨eP (a, b), _, by simp [lim, startE, execs, exec, ev, evT, evs, evI, M.bind, M.pure, M.lift, val, datum, settle, toDM, toDwM, toD, toDw, cellAt, Vl.asD, binO, addO, cmpO, eqO_int, eqO_str, eqO_b2, ltO, leO, isNone, truthO, lenO, idxO, sliceO, bindO, bindT, bindTs, wipeE, wipes, bltO, asBools, isaO, setM, leave, exitO, callM, callIn, cellsAt, putBack, outBack, alloc, mthM, preM, toDsM, allD, cont, partO, isAbs, optI, itemsO, noExc, atom, smallI, eP_mk], by simp only [List.length_map]; rw [List.length_take] at bl; show _ < 1000000; omega, B ++ [b], zs, by simp, rfl, ?_, p⟩
        rw [tk]
        exact List.Sublist.append hB (List.Sublist.refl _)
      · rw [decide_eq_false c, if_neg (by decide)]
        exact ⟨B, zs, rfl, rfl, by rw [tk]; exact hB.trans (List.sublist_append_left _ _), p⟩
  rw [List.length_map] at hB hz
  have tk : (hs.drop (j + 1)).take (0 + (hs.drop (j + 1)).length) = hs.drop (j + 1) := by rw [Nat.zero_add]; exact List.take_of_length_le (Nat.le_refl _)
  rw [tk] at hB
  refine ⟨B, ys, ?_, hB, hz.mono (by omega)⟩
  have cut : sliceO (.list (hs.map PyData.str)) (some ((j : Int) + 1)) none = some (.lst ((hs.drop (j + 1)).map PyData.str)) := by
    show some (Out.lst (cutL _ _ _)) = _
    rw [cut_fromI _ (by omega), show ((j : Int) + 1).toNat = j + 1 by omega, List.map_drop]
  exact ev_comp (xs := (hs.drop (j + 1)).map PyData.str) (S1 := [some (.lst xs), some F]) (by simp [lim, startE, execs, exec, ev, evT, evs, evI, M.bind, M.pure, M.lift, val, datum, settle, toDM, toDwM, toD, toDw, cellAt, Vl.asD, cmpO, eqO_int, eqO_str, eqO_b2, ltO, leO, isNone, truthO, bindT, bindTs, wipeE, wipes, bltO, asBools, isaO, setM, leave, exitO, callM, callIn, cellsAt, putBack, outBack, alloc, mthM, preM, toDsM, allD, cont, partO, isAbs, optI, itemsO, noExc, atom, smallI, idx_eW0, idx_eW1, idx_eW2, idx_eL0, idx_eL1, idx_eL2, idx_eL3, idx_eR3, idx_eRow, idx_cons0, cut_eR, bindO.eq_1, bind_eP, bind_eW, len_list, len_ePs, bi_add, bi_sub, bi_mulpow, bi_pow7, cut]) rfl e3
/-- roads so far -/
structure RoOk (hs : List Str) (j : Nat) (F : List Pc) : Prop where
  one : F.Nodup
  a : ∀ p ∈ F, p.1 ∈ hs.take j
  b : ∀ p ∈ F, p.2 ∈ hs
  up : ∀ p ∈ F, p.1.cps.toList < p.2.cps.toList
  l : F.length ≤ 4 * j
theorem RoOk.next {hs : List Str} {j : Nat} {F : List Pc} {a : Str} {B : List Str} (hh : HsOk hs) (h : RoOk hs j F) (ha : hs[j]? = some a) (hB : B.Sublist (hs.drop (j + 1))) : RoOk hs (j + 1) (F ++ B.map fun b => (a, b)) := by
  have hj := (List.getElem?_eq_some_iff.mp ha)
  have split : hs.take j ++ a :: hs.drop (j + 1) = hs := by
    rw [← hj.2, ← List.drop_eq_getElem_cons hj.1, List.take_append_drop]
  have one := hh.one
  have up := hh.up
  rw [← split] at one up
  rw [List.nodup_append] at one
  have up2 := (List.pairwise_append.mp up).2.1
  have tk : hs.take (j + 1) = hs.take j ++ [a] := by rw [List.take_succ, ha]; rfl
  refine ⟨?_, fun p hp => ?_, fun p hp => ?_, fun p hp => ?_, ?_⟩
  · rw [List.nodup_append]
    refine ⟨h.one, ?_, fun p hp q hq e => ?_⟩
    · rw [List.nodup_iff_pairwise_ne, List.pairwise_map]
      have nd : B.Nodup := hB.nodup ((List.nodup_cons.mp one.2.1).2)
      exact (List.nodup_iff_pairwise_ne.mp nd).imp fun {x y} ne e => ne (by simpa using e)
    · obtain ⟨b, _, rfl⟩ := List.mem_map.mp hq
      subst e
      exact one.2.2 _ (h.a _ hp) _ List.mem_cons_self rfl
  · rw [tk]
    rcases List.mem_append.mp hp with hp | hp
    · exact List.mem_append_left _ (h.a p hp)
    · obtain ⟨b, _, rfl⟩ := List.mem_map.mp hp
      exact List.mem_append_right _ (List.mem_singleton.mpr rfl)
  · rcases List.mem_append.mp hp with hp | hp
    · exact h.b p hp
    · obtain ⟨b, hb, rfl⟩ := List.mem_map.mp hp
      exact List.mem_of_mem_drop (hB.subset hb)
  · rcases List.mem_append.mp hp with hp | hp
    · exact h.up p hp
    · obtain ⟨b, hb, rfl⟩ := List.mem_map.mp hp
      exact (List.pairwise_cons.mp up2).1 b (hB.subset hb)
  · have bl := hB.length_le
    have l4 := hh.l
    have hl := h.l
    rw [List.length_drop] at bl
    simp only [List.length_append, List.length_map]
    omega
theorem roads (k n : Nat) (xs : List PyData) (ps : List Pc) (h : PotOk n xs) (hn : n ≤ 800000) (hp : PsOk ps) :
    ∃ (O : List Pc) (ys : List PyData), run Fs (k + 2) 25 [.ref 0, .d (ePs ps)] [some (.lst xs)] = .ok (.lst (O.map eP)) [some (.lst ys)] ∧ (∀ p ∈ O, PcOk p) ∧ (∀ p ∈ O, p.1.cps.toList < p.2.cps.toList) ∧ O.Nodup ∧ O.length ≤ 16 ∧ PotOk (n + 30) ys := by
  have l2 := hp.l2
  have c0 := fun w0 w2 w5 w6 w7 w8 S => c0_roads (C := run Fs (k + 1)) (ps := ps) (w0 := w0) (w2 := w2) (w5 := w5) (w6 := w6) (w7 := w7) (w8 := w8) (S := S) (by omega)
  have ss : ssetO (.list (ps.map fun p => PyData.str p.1)) = some (.lst ((sortS (uniq (ps.map (·.1)))).map PyData.str)) := by
    show (if (ps.map fun p => PyData.str p.1).length < 64 then (asStrs (ps.map fun p => PyData.str p.1)).map fun zs => Out.lst ((sortS (uniq zs)).map .str) else none) = _
    rw [if_pos (by rw [List.length_map]; omega), asStrs_fst]; rfl
  have hh := hands_ok hp
  generalize sortS (uniq (ps.map (·.1))) = hs at ss hh
  obtain ⟨v, x1, e1, v0, v1, p1⟩ := take k n xs 5 h (by omega) (by decide) (by decide)
  obtain ⟨z, hz, hm⟩ := at_mem (xs := [PyData.int 4, .int 4, .int 3, .int 1, .int 0]) v0 (by exact v1)
  have hz : idxO (.list [PyData.int 4, .int 4, .int 3, .int 1, .int 0]) (.int v) = some z := hz
  obtain ⟨o, rfl⟩ : ∃ o, z = .int o := by
    simp only [List.mem_cons, List.not_mem_nil, or_false] at hm
    rcases hm with rfl | rfl | rfl | rfl | rfl <;> exact ⟨_, rfl⟩
  obtain ⟨E', S', e3, w3, w7, F, ys, rfl, rfl, hF, hz2⟩ := loopL_inv (bnd := fun x E => bindT (.tp (.cons (.nm 7) (.cons (.nm 3) .nil))) x E) (b := fun E => execs (run Fs (k + 1)) b2__law_roads E)
    (fun j E S => ∃ w3 w7 F ys, E = [some (.ref 0), some (.d (ePs ps)), some (.d (.list (hs.map PyData.str))), w3, none, some (.d (.int o)), some (.ref 1), w7, none] ∧ S = [some (.lst ys), some (.lst (F.map eP))] ∧ RoOk hs j F ∧ PotOk (n + 1 + 4 * j) ys) (enumL 0 (hs.map PyData.str)) 0 [some (.ref 0), some (.d (ePs ps)), some (.d (.list (hs.map PyData.str))), none, none, some (.d (.int o)), some (.ref 1), none, none] [some (.lst x1), some (.lst [])]
    ⟨none, none, [], x1, rfl, rfl, ⟨.nil, nofun, nofun, nofun, Nat.le_refl _⟩, p1⟩ fun j E S x _ hx ⟨w3, w7, F, ys, hE, hS, hF, hz2⟩ => by
      subst hE hS
      obtain ⟨y, hy, rfl⟩ := enum_at _ _ _ _ (by simpa using hx)
      rw [List.getElem?_map, Option.map_eq_some_iff] at hy
      obtain ⟨a, ha, rfl⟩ := hy
      have hj := (List.getElem?_eq_some_iff.mp ha).1
      have h4 := hh.l
      obtain ⟨B, zs, e, hB, p⟩ := c1_roads k _ ys hs j a o (.lst (F.map eP)) hz2 (by omega) h4 (some (.d (ePs ps))) none (some (.ref 1))
      have nx := hF.next hh ha hB
      have hl := nx.l
      have hl' : F.length + B.length ≤ 1000000 := by
        simp only [List.length_append, List.length_map] at hl
        omega
      refine ⟨[some (.ref 0), some (.d (ePs ps)), some (.d (.list (hs.map PyData.str))), some (.d (.str a)), none, some (.d (.int o)), some (.ref 1), some (.d (.int (j : Int))), none], (.nx, [some (.ref 0), some (.d (ePs ps)), some (.d (.list (hs.map PyData.str))), some (.d (.str a)), none, some (.d (.int o)), some (.ref 1), some (.d (.int (j : Int))), none]), [some (.lst zs), some (.lst ((F ++ B.map fun b => (a, b)).map eP))], ?_, ?_, .inl rfl, _, _, _, _, rfl, rfl, nx, p.mono (by omega)⟩
      · show bindT _ (.tuple [.int ((0 + j : Nat) : Int), .str a]) _ = _
        rw [Nat.zero_add]; rfl
      · rw [List.map_append]
        have hL : ((B.map fun b => (a, b)).map eP).length = B.length := by simp
        generalize (B.map fun b => (a, b)).map eP = L at e hL
        rw [← hL] at hl'
        simp [b2__law_roads, lim, startE, execs, exec, ev, evT, evs, evI, M.bind, M.pure, M.lift, val, datum, settle, toDM, toDwM, toD, toDw, cellAt, Vl.asD, binO, addO, cmpO, eqO_int, eqO_str, eqO_b2, ltO, leO, isNone, truthO, lenO, idxO, sliceO, bindO, bindT, bindTs, wipeE, wipes, bltO, asBools, isaO, setM, leave, exitO, callM, callIn, cellsAt, putBack, outBack, alloc, mthM, preM, toDsM, allD, cont, partO, isAbs, optI, itemsO, noExc, atom, smallI, e, hl']
  rw [enum_len, List.length_map] at hF hz2
  have h4 := hh.l
  have fl := hF.l
  have lp := exec_loop (C := run Fs (k + 1)) (t := .tp (.cons (.nm 7) (.cons (.nm 3) .nil))) (it := .enum (.var 2)) (b := b2__law_roads) (xs := enumL 0 (hs.map PyData.str)) (E := [some (.ref 0), some (.d (ePs ps)), some (.d (.list (hs.map PyData.str))), none, none, some (.d (.int o)), some (.ref 1), none, none]) (S := [some (.lst x1), some (.lst [])]) (S1 := [some (.lst x1), some (.lst [])]) (by simp [lim, startE, execs, exec, ev, evT, evs, evI, M.bind, M.pure, M.lift, val, datum, settle, toDM, toDwM, toD, toDw, cellAt, Vl.asD, binO, addO, cmpO, eqO_int, eqO_str, eqO_b2, ltO, leO, isNone, truthO, lenO, idxO, sliceO, bindO, bindT, bindTs, wipeE, wipes, bltO, asBools, isaO, setM, leave, exitO, callM, callIn, cellsAt, putBack, outBack, alloc, mthM, preM, toDsM, allD, cont, partO, isAbs, optI, itemsO, noExc, atom, smallI]) e3
  have lp : exec (run Fs (k + 1)) l3__law_roads _ _ = _ := lp
  obtain ⟨u, x2, e2, u0, u1, p2⟩ := take k _ ys 2 hz2 (by omega) (by decide) (by decide)
  have pc : ∀ p ∈ F, PcOk p := fun p hp => ⟨hh.nm _ (List.mem_of_mem_take (hF.a p hp)), hh.nm _ (hF.b p hp)⟩
  by_cases c : u = 0
  · refine ⟨F.reverse, x2, ?_, fun p hp => pc p (List.mem_reverse.mp hp), fun p hp => hF.up p (List.mem_reverse.mp hp), (List.reverse_perm F).nodup_iff.mpr hF.one, by rw [List.length_reverse]; omega, p2.mono (by omega)⟩
    rw [run_at (fn := f__law_roads) rfl rfl]
    simp [f__law_roads, lim, startE, execs, exec, ev, evT, evs, evI, M.bind, M.pure, M.lift, val, datum, settle, toDM, toDwM, toD, toDw, cellAt, Vl.asD, cmpO, eqO_int, eqO_str, eqO_b2, ltO, leO, isNone, truthO, bindT, bindTs, wipeE, wipes, bltO, asBools, isaO, setM, leave, exitO, callM, callIn, cellsAt, putBack, outBack, alloc, mthM, preM, toDsM, allD, cont, partO, isAbs, optI, itemsO, noExc, atom, smallI, idx_eW0, idx_eW1, idx_eW2, idx_eL0, idx_eL1, idx_eL2, idx_eL3, idx_eR3, idx_eRow, idx_cons0, cut_eR, bindO.eq_1, bind_eP, bind_eW, len_list, len_ePs, bi_add, bi_sub, bi_mulpow, bi_pow7, c0, ss, e1, hz, lp, e2, c, revO]
  · refine ⟨F, x2, ?_, pc, hF.up, hF.one, by omega, p2.mono (by omega)⟩
    rw [run_at (fn := f__law_roads) rfl rfl]
    simp [f__law_roads, lim, startE, execs, exec, ev, evT, evs, evI, M.bind, M.pure, M.lift, val, datum, settle, toDM, toDwM, toD, toDw, cellAt, Vl.asD, cmpO, eqO_int, eqO_str, eqO_b2, ltO, leO, isNone, truthO, bindT, bindTs, wipeE, wipes, bltO, asBools, isaO, setM, leave, exitO, callM, callIn, cellsAt, putBack, outBack, alloc, mthM, preM, toDsM, allD, cont, partO, isAbs, optI, itemsO, noExc, atom, smallI, idx_eW0, idx_eW1, idx_eW2, idx_eL0, idx_eL1, idx_eL2, idx_eL3, idx_eR3, idx_eRow, idx_cons0, cut_eR, bindO.eq_1, bind_eP, bind_eW, len_list, len_ePs, bi_add, bi_sub, bi_mulpow, bi_pow7, c0, ss, e1, hz, lp, e2, c]

end Lf

set_option Elab.async false
set_option linter.all false
set_option maxRecDepth 100000
set_option maxHeartbeats 4000000
set_option exponentiation.threshold 4000
namespace Lf
open PySem PySem.Spec PyProof.Rows L2
/-! ### a world in which much is believed -/
theorem few_loop (k n : Nat) (xs : List PyData) (ps : List Pc) (most : Vl) (h : PotOk n xs) (hn : n ≤ 500000) (hp : PsOk ps) :
    ∃ (v4 v5 v6 v7 : Option Vl) (R : List Ru) (ys : List PyData), exec (run Fs (k + 4)) l1__law_few [some (.ref 0), some (.d (ePs ps)), some most, some (.ref 1), none, none, none, none, none] [some (.lst xs), some (.lst [])] =
      .ok (.nx, [some (.ref 0), some (.d (ePs ps)), some most, some (.ref 1), v4, v5, v6, v7, none]) [some (.lst ys), some (.lst (R.map eR))] ∧ (∀ r ∈ R, RuOk r) ∧ R.length ≤ 16 ∧ PotOk (n + 2000) ys := by
  have l1 := hp.l1
  have l2 := hp.l2
  obtain ⟨m, x1, e1, m0, m1, p1⟩ := take (k + 3) n xs 15 h (by omega) (by decide) (by decide)
  obtain ⟨items, hi⟩ := rng_some (lo := 0) (hi := m) (by omega) (by omega) (by omega) (by omega)
  have hlen := rng_len hi
  obtain ⟨E', S', e4, v4, v5, v6, v7, R, ys, rfl, rfl, hR, hj, hz2⟩ := loopL_inv (bnd := fun x E => bindT (.nm 4) x E) (b := fun E => execs (run Fs (k + 4)) b0__law_few E)
    (fun j E S => ∃ (v4 v5 v6 v7 : Option Vl) (R : List Ru) (ys : List PyData), E = [some (.ref 0), some (.d (ePs ps)), some most, some (.ref 1), v4, v5, v6, v7, none] ∧ S = [some (.lst ys), some (.lst (R.map eR))] ∧ (∀ r ∈ R, RuOk r) ∧ R.length = j ∧ PotOk (n + 1 + 120 * j) ys) items 0 [some (.ref 0), some (.d (ePs ps)), some most, some (.ref 1), none, none, none, none, none] [some (.lst x1), some (.lst [])]
    ⟨none, none, none, none, [], x1, rfl, rfl, nofun, rfl, p1⟩ fun j E S x _ hx ⟨v4, v5, v6, v7, R, ys, hE, hS, hR, hj, hz2⟩ => by
      subst hE hS
      have hx : items[j]? = some x := by simpa using hx
      have hjl := (List.getElem?_eq_some_iff.mp hx).1
      obtain ⟨v, x1, e1, v0, v1, p1⟩ := take (k + 3) _ ys (ps.length : Int) hz2 (by omega) (by omega) (by omega)
      obtain ⟨p, pm, hpl⟩ := at_ty eP v0 v1
      have hpl : idxO (ePs ps) (.int v) = some (eP p) := hpl
      obtain ⟨u, x2, e2, u0, u1, p2⟩ := take (k + 3) _ x1 6 p1 (by omega) (by decide) (by decide)
      obtain ⟨z, hz, hm⟩ := at_mem (xs := [PyData.int 1, .int 1, .int 2, .int 2, .int 3, .int 8]) u0 (by exact u1)
      have hz : idxO (.list [PyData.int 1, .int 1, .int 2, .int 2, .int 3, .int 8]) (.int u) = some z := hz
      obtain ⟨m, rfl, m0, m1⟩ : ∃ m, z = .int m ∧ 1 ≤ m ∧ m ≤ 8 := by
        simp only [List.mem_cons, List.not_mem_nil, or_false] at hm
        rcases hm with rfl | rfl | rfl | rfl | rfl | rfl <;> exact ⟨_, rfl, by omega, by omega⟩
      obtain ⟨A, x3, e3, a1, a2, a3, p3⟩ := some_ (k + 2) _ x2 ps m p2 (by omega) (by omega) (by omega) (by omega) hp.one
      have al : 1 ≤ A.length ∧ A.length ≤ 8 := by split at a3 <;> omega
      obtain ⟨c0, x4, e4, c00, c01, p4⟩ := take (k + 3) _ x3 3 p3 (by omega) (by decide) (by decide)
      obtain ⟨b, x5, e5, b0, b1, p5⟩ := take (k + 3) _ x4 2 p4 (by omega) (by decide) (by decide)
      obtain ⟨z2, hzz, hm2⟩ := at_mem (xs := [PyData.int 1, .int (1 + c0)]) b0 (by exact b1)
      have hzz : idxO (.list [PyData.int 1, .int (1 + c0)]) (.int b) = some z2 := hzz
      obtain ⟨c, rfl, c1, c2⟩ : ∃ m, z2 = .int m ∧ 1 ≤ m ∧ m ≤ 8 := by
        simp only [List.mem_cons, List.not_mem_nil, or_false] at hm2
        rcases hm2 with rfl | rfl <;> exact ⟨_, rfl, by omega, by omega⟩
      have pk := hp.pc p pm
      have rl : R.length < 1000000 := by omega
      have ea : PyData.list (A.map eP) = ePs A := rfl
      have er : PyData.tuple [.str p.1, .str p.2, .int c, ePs A] = eR ⟨p.1, p.2, c, A⟩ := rfl
      refine ⟨_, (.nx, [some (.ref 0), some (.d (ePs ps)), some most, some (.ref 1), some (.d x), some (.d (.str p.1)), some (.d (.str p.2)), some (.d (ePs A)), none]), [some (.lst x5), some (.lst ((R ++ [(⟨p.1, p.2, c, A⟩ : Ru)]).map eR))], rfl, ?_, .inl rfl, _, _, _, _, _, _, rfl, rfl, fun q hq => ?_, by simp [hj], p5.mono (by omega)⟩
      · simp [b0__law_few, lim, startE, execs, exec, ev, evT, evs, evI, M.bind, M.pure, M.lift, val, datum, settle, toDM, toDwM, toD, toDw, cellAt, Vl.asD, cmpO, eqO_int, eqO_str, eqO_b2, ltO, leO, isNone, truthO, bindT, bindTs, wipeE, wipes, bltO, asBools, isaO, setM, leave, exitO, callM, callIn, cellsAt, putBack, outBack, alloc, mthM, preM, toDsM, allD, cont, partO, isAbs, optI, itemsO, noExc, atom, smallI, idx_eW0, idx_eW1, idx_eW2, idx_eL0, idx_eL1, idx_eL2, idx_eL3, idx_eR3, idx_eRow, idx_cons0, cut_eR, bindO.eq_1, bind_eP, bind_eW, len_list, len_ePs, bi_add, bi_sub, bi_mulpow, bi_pow7, e1, hpl, e2, hz, e3, ea, e4, e5, hzz, er, rl]
      · rcases List.mem_append.mp hq with hq | hq
        · exact hR q hq
        · rw [List.mem_singleton.mp hq]
          exact ⟨pk.a, pk.b, c1, by show c ≤ 10 ^ 9; omega, fun q hq => hp.pc q (a2 q hq), a1, al.1, al.2⟩
  have it : evI (run Fs (k + 4)) (.rng (.call 19 (.cons (.var 0) (.cons (.cst (.int 15)) .nil)))) [some (.ref 0), some (.d (ePs ps)), some most, some (.ref 1), none, none, none, none, none] [some (.lst xs), some (.lst [])] = .ok items [some (.lst x1), some (.lst [])] := by
    refine evI_rng (i := m) ?_ hi
    simp [lim, startE, execs, exec, ev, evT, evs, evI, M.bind, M.pure, M.lift, val, datum, settle, toDM, toDwM, toD, toDw, cellAt, Vl.asD, cmpO, eqO_int, eqO_str, eqO_b2, ltO, leO, isNone, truthO, bindT, bindTs, wipeE, wipes, bltO, asBools, isaO, setM, leave, exitO, callM, callIn, cellsAt, putBack, outBack, alloc, mthM, preM, toDsM, allD, cont, partO, isAbs, optI, itemsO, noExc, atom, smallI, idx_eW0, idx_eW1, idx_eW2, idx_eL0, idx_eL1, idx_eL2, idx_eL3, idx_eR3, idx_eRow, idx_cons0, cut_eR, bindO.eq_1, bind_eP, bind_eW, len_list, len_ePs, bi_add, bi_sub, bi_mulpow, bi_pow7, e1]
  exact ⟨v4, v5, v6, v7, R, ys, exec_loop it e4, hR, by omega, hz2.mono (by omega)⟩
theorem bi_mulL {xs : List PyData} {b : Int} (h0 : 0 ≤ b) (h1 : b < 2) (hl : xs.length ≤ 1000) : ∃ ys : List PyData, binO .mul (.list xs) (.int b) = some (.lst ys) ∧ (ys = [] ∨ ys = xs) := by
  have : binO .mul (.list xs) (.int b) = some (.lst (List.replicate b.toNat xs).flatten) := by
    simp only [binO]
    rw [if_pos ⟨hl, h0, by omega⟩]
  refine ⟨_, this, ?_⟩
  have : b = 0 ∨ b = 1 := by omega
  rcases this with rfl | rfl
  · exact .inl rfl
  · exact .inr (by simp [List.replicate])
theorem few_ (k n : Nat) (xs : List PyData) (ps : List Pc) (most : Int) (m0 : 0 ≤ most) (m16 : most ≤ 16) (h : PotOk n xs) (hn : n ≤ 300000) (hp : PsOk ps) :
    ∃ (w : Wo) (ys : List PyData), run Fs (k + 5) 26 [.ref 0, .d (ePs ps), .d (.int most)] [some (.lst xs)] = .ok (.val (.d (eW w))) [some (.lst ys)] ∧ WoOk w ∧ (∀ p ∈ w.vs, p ∈ ps) ∧ (w.vs.length : Int) ≤ most ∧ PotOk (n + 4000) ys := by
  have l2 := hp.l2
  obtain ⟨v4, v5, v6, v7, R, x1, e1, hR, rl, p1⟩ := few_loop k n xs ps (.d (.int most)) h (by omega) hp
  obtain ⟨Q, x2, e2, hQ, ql, p2⟩ := round_ k _ x1 ps p1 (by omega) hp
  obtain ⟨b, x3, e3, b0, b1, p3⟩ := take (k + 3) _ x2 2 p2 (by omega) (by decide) (by decide)
  obtain ⟨Y, em, hY⟩ := bi_mulL (xs := Q.map eR) b0 b1 (by rw [List.length_map]; omega)
  obtain ⟨Q', rfl, hQ', ql'⟩ : ∃ Q' : List Ru, Y = Q'.map eR ∧ (∀ r ∈ Q', RuOk r) ∧ Q'.length ≤ 6 := by
    rcases hY with rfl | rfl
    · exact ⟨[], rfl, nofun, Nat.zero_le _⟩
    · exact ⟨Q, rfl, hQ, ql⟩
  have bl := bi_list (xs := R.map eR) (ys := Q'.map eR) (by simp only [List.length_map]; show _ ≤ 1000000; omega)
  obtain ⟨m, x4, e4, mm0, mm1, p4⟩ := take (k + 3) _ x3 (most + 1) p3 (by omega) (by omega) (by omega)
  obtain ⟨t, x5, e5, t0, t1, p5⟩ := take (k + 3) _ x4 2 p4 (by omega) (by decide) (by decide)
  obtain ⟨z, hz, hm⟩ := at_mem (xs := [PyData.int m, .int most]) t0 (by exact t1)
  have hz : idxO (.list [PyData.int m, .int most]) (.int t) = some z := hz
  obtain ⟨v, rfl, vv0, vv1⟩ : ∃ m, z = .int m ∧ 0 ≤ m ∧ m ≤ most := by
    simp only [List.mem_cons, List.not_mem_nil, or_false] at hm
    rcases hm with rfl | rfl <;> exact ⟨_, rfl, by omega, by omega⟩
  obtain ⟨A, x6, e6, a1, a2, a3, p6⟩ := some_ (k + 2) _ x5 ps v p5 (by omega) (by omega) (by omega) (by omega) hp.one
  have al : A.length ≤ 16 ∧ (A.length : Int) ≤ most := by split at a3 <;> constructor <;> omega
  obtain ⟨O, x7, e7, o1, o2, o3, o4, p7⟩ := roads (k + 2) _ x6 ps p6 (by omega) hp
  refine ⟨⟨A, R ++ Q', O⟩, x7, ?_, ⟨fun p hp' => hp.pc p (a2 p hp'), a1, al.1, fun r hr => (List.mem_append.mp hr).elim (hR r) (hQ' r), by show (R ++ Q').length ≤ 60; rw [List.length_append]; omega, o1, o2, o3, o4⟩, a2, al.2, p7.mono (by omega)⟩
  have s1 : exec (run Fs (k + 4)) (.asg (.nm 3) (.mut (.dis .nil))) [some (.ref 0), some (.d (ePs ps)), some (.d (.int most)), none, none, none, none, none, none] [some (.lst xs)] = .ok (.nx, [some (.ref 0), some (.d (ePs ps)), some (.d (.int most)), some (.ref 1), none, none, none, none, none]) [some (.lst xs), some (.lst [])] := by
    simp [lim, startE, execs, exec, ev, evT, evs, evI, M.bind, M.pure, M.lift, val, datum, settle, toDM, toDwM, toD, toDw, cellAt, Vl.asD, cmpO, eqO_int, eqO_str, eqO_b2, ltO, leO, isNone, truthO, bindT, bindTs, wipeE, wipes, bltO, asBools, isaO, setM, leave, exitO, callM, callIn, cellsAt, putBack, outBack, alloc, mthM, preM, toDsM, allD, cont, partO, isAbs, optI, itemsO, noExc, atom, smallI, idx_eW0, idx_eW1, idx_eW2, idx_eL0, idx_eL1, idx_eL2, idx_eL3, idx_eR3, idx_eRow, idx_cons0, cut_eR, bindO.eq_1, bind_eP, bind_eW, len_list, len_ePs, bi_add, bi_sub, bi_mulpow, bi_pow7]
  have ea : PyData.list (A.map eP) = ePs A := rfl
  have eo : PyData.list (O.map eP) = ePs O := rfl
  have ew : PyData.tuple [ePs A, .list ((R ++ Q').map eR), ePs O] = eW ⟨A, R ++ Q', O⟩ := rfl
  have er : (R.map eR ++ Q'.map eR) = (R ++ Q').map eR := List.map_append.symm
  rw [er] at bl
  have s2 : exec (run Fs (k + 4)) (.asg (.nm 3) (.mut (.bin .add (.var 3) (.bin .mul (.call 24 (.cons (.var 0) (.cons (.var 1) .nil))) (.call 19 (.cons (.var 0) (.cons (.cst (.int 2)) .nil))))))) [some (.ref 0), some (.d (ePs ps)), some (.d (.int most)), some (.ref 1), v4, v5, v6, v7, none] [some (.lst x1), some (.lst (R.map eR))] =
      .ok (.nx, [some (.ref 0), some (.d (ePs ps)), some (.d (.int most)), some (.ref 2), v4, v5, v6, v7, none]) [some (.lst x3), some (.lst (R.map eR)), some (.lst ((R ++ Q' : List Ru).map eR))] := by
    generalize (R ++ Q').map eR = Z at bl
    generalize Q'.map eR = Y at em bl
    simp [lim, startE, execs, exec, ev, evT, evs, evI, M.bind, M.pure, M.lift, val, datum, settle, toDM, toDwM, toD, toDw, cellAt, Vl.asD, cmpO, eqO_int, eqO_str, eqO_b2, ltO, leO, isNone, truthO, bindT, bindTs, wipeE, wipes, bltO, asBools, isaO, setM, leave, exitO, callM, callIn, cellsAt, putBack, outBack, alloc, mthM, preM, toDsM, allD, cont, partO, isAbs, optI, itemsO, noExc, atom, smallI, idx_eW0, idx_eW1, idx_eW2, idx_eL0, idx_eL1, idx_eL2, idx_eL3, idx_eR3, idx_eRow, idx_cons0, cut_eR, bindO.eq_1, bind_eP, bind_eW, len_list, len_ePs, bi_add, bi_sub, bi_mulpow, bi_pow7, e2, e3, em, bl]
  have s3 : exec (run Fs (k + 4)) (.asg (.nm 8) (.call 22 (.cons (.var 0) (.cons (.var 1) (.cons (.idx (.dis (.cons (.call 19 (.cons (.var 0) (.cons (.bin .add (.var 2) (.cst (.int 1))) .nil))) (.cons (.var 2) .nil))) (.call 19 (.cons (.var 0) (.cons (.cst (.int 2)) .nil)))) .nil))))) [some (.ref 0), some (.d (ePs ps)), some (.d (.int most)), some (.ref 2), v4, v5, v6, v7, none] [some (.lst x3), some (.lst (R.map eR)), some (.lst ((R ++ Q' : List Ru).map eR))] =
      .ok (.nx, [some (.ref 0), some (.d (ePs ps)), some (.d (.int most)), some (.ref 2), v4, v5, v6, v7, some (.d (ePs A))]) [some (.lst x6), some (.lst (R.map eR)), some (.lst ((R ++ Q' : List Ru).map eR))] := by
    simp [lim, startE, execs, exec, ev, evT, evs, evI, M.bind, M.pure, M.lift, val, datum, settle, toDM, toDwM, toD, toDw, cellAt, Vl.asD, cmpO, eqO_int, eqO_str, eqO_b2, ltO, leO, isNone, truthO, bindT, bindTs, wipeE, wipes, bltO, asBools, isaO, setM, leave, exitO, callM, callIn, cellsAt, putBack, outBack, alloc, mthM, preM, toDsM, allD, cont, partO, isAbs, optI, itemsO, noExc, atom, smallI, idx_eW0, idx_eW1, idx_eW2, idx_eL0, idx_eL1, idx_eL2, idx_eL3, idx_eR3, idx_eRow, idx_cons0, cut_eR, bindO.eq_1, bind_eP, bind_eW, len_list, len_ePs, bi_add, bi_sub, bi_mulpow, bi_pow7, e4, e5, hz, e6, ea]
  have s5 : exec (run Fs (k + 4)) (.frz 3) [some (.ref 0), some (.d (ePs ps)), some (.d (.int most)), some (.ref 2), v4, v5, v6, v7, some (.d (ePs A))] [some (.lst x6), some (.lst (R.map eR)), some (.lst ((R ++ Q' : List Ru).map eR))] =
      .ok (.nx, [some (.ref 0), some (.d (ePs ps)), some (.d (.int most)), some (.d (.list ((R ++ Q' : List Ru).map eR))), v4, v5, v6, v7, some (.d (ePs A))]) [some (.lst x6), some (.lst (R.map eR)), none] := by
    simp [lim, startE, execs, exec, ev, evT, evs, evI, M.bind, M.pure, M.lift, val, datum, settle, toDM, toDwM, toD, toDw, cellAt, Vl.asD, cmpO, eqO_int, eqO_str, eqO_b2, ltO, leO, isNone, truthO, bindT, bindTs, wipeE, wipes, bltO, asBools, isaO, setM, leave, exitO, callM, callIn, cellsAt, putBack, outBack, alloc, mthM, preM, toDsM, allD, cont, partO, isAbs, optI, itemsO, noExc, atom, smallI, idx_eW0, idx_eW1, idx_eW2, idx_eL0, idx_eL1, idx_eL2, idx_eL3, idx_eR3, idx_eRow, idx_cons0, cut_eR, bindO.eq_1, bind_eP, bind_eW, len_list, len_ePs, bi_add, bi_sub, bi_mulpow, bi_pow7]
  have s6 : execs (run Fs (k + 4)) (.cons (.ret (.tup (.cons (.var 8) (.cons (.var 3) (.cons (.call 25 (.cons (.var 0) (.cons (.var 1) .nil))) .nil))))) .nil) [some (.ref 0), some (.d (ePs ps)), some (.d (.int most)), some (.d (.list ((R ++ Q' : List Ru).map eR))), v4, v5, v6, v7, some (.d (ePs A))] [some (.lst x6), some (.lst (R.map eR)), none] =
      .ok (.rt (.val (.d (eW ⟨A, R ++ Q', O⟩))), [some (.ref 0), some (.d (ePs ps)), some (.d (.int most)), some (.d (.list ((R ++ Q' : List Ru).map eR))), v4, v5, v6, v7, some (.d (ePs A))]) [some (.lst x7), some (.lst (R.map eR)), none] := by
    rw [← ew]
    generalize (R ++ Q').map eR = Z
    simp [lim, startE, execs, exec, ev, evT, evs, evI, M.bind, M.pure, M.lift, val, datum, settle, toDM, toDwM, toD, toDw, cellAt, Vl.asD, cmpO, eqO_int, eqO_str, eqO_b2, ltO, leO, isNone, truthO, bindT, bindTs, wipeE, wipes, bltO, asBools, isaO, setM, leave, exitO, callM, callIn, cellsAt, putBack, outBack, alloc, mthM, preM, toDsM, allD, cont, partO, isAbs, optI, itemsO, noExc, atom, smallI, idx_eW0, idx_eW1, idx_eW2, idx_eL0, idx_eL1, idx_eL2, idx_eL3, idx_eR3, idx_eRow, idx_cons0, cut_eR, bindO.eq_1, bind_eP, bind_eW, len_list, len_ePs, bi_add, bi_sub, bi_mulpow, bi_pow7, e7, eo]
  have all : execs (run Fs (k + 4)) f__law_few.body (startE f__law_few [.ref 0, .d (ePs ps), .d (.int most)]) [some (.lst xs)] = _ :=
    (ex_cons s1).trans ((ex_cons e1).trans ((ex_cons s2).trans ((ex_cons s3).trans ((ex_cons s5).trans s6))))
  rw [run_at (fn := f__law_few) rfl rfl, all]
  rfl

end Lf

set_option Elab.async false
set_option linter.all false
set_option maxRecDepth 100000
set_option maxHeartbeats 4000000
set_option exponentiation.threshold 4000
namespace Lf
open PySem PySem.Spec PyProof.Rows L2
/-! ### the law's judgement -/
def stm : Nat → Sms → Sm
  | _, .nil => .pass
  | 0, .cons s _ => s
  | n + 1, .cons _ ss => stm n ss
theorem eqvAll_eP : ∀ a b : List Pc, PyData.eqvAll (a.map eP) (b.map eP) = decide (a = b)
  | [], [] => by simp [PyData.eqvAll]
  | [], b :: bs => by simp [PyData.eqvAll]
  | a :: as, [] => by simp [PyData.eqvAll]
  | a :: as, b :: bs => by
    rw [List.map_cons, List.map_cons, PyData.eqvAll, eqv_eP, eqvAll_eP as bs, Bool.eq_iff_iff]
    simp
theorem lay_pair {A B : List Pc} (ha : ∀ p ∈ A, PcOk p) (hb : ∀ p ∈ B, PcOk p) : Lay 3 (pairD A B) := Lay.tuple fun x hx => by
  simp only [List.mem_cons, List.not_mem_nil, or_false] at hx
  rcases hx with rfl | rfl
  · exact Lay.pcs fun p hp => ha p (mem_srt.mp hp)
  · exact Lay.pcs fun p hp => hb p (mem_srt.mp hp)
theorem eqO_pair {A B : List Pc} (ha : ∀ p ∈ A, PcOk p) (hb : ∀ p ∈ B, PcOk p) : eqO (pairD A B) (pairD A B) = some true := by
  have s : SeqAt.shaped (pairD A B) = true := (lay_pair ha hb).shaped (by decide)
  unfold pairD at *
  rw [eqO_tup s s]
  simp only [PyData.eqv, PyData.eqvAll, ePs, eqvAll_eP]
  simp
theorem eqO_pcs {A : List Pc} (ha : ∀ p ∈ A, PcOk p) : eqO (.list (A.map eP)) (ePs A) = some true := by
  have s : SeqAt.shaped (ePs A) = true := (Lay.pcs ha).shaped (by decide)
  unfold ePs at *
  simp only [eqO, apart, bne_self_eq_false, s, Bool.and_self, if_true, PyData.eqv, eqvAll_eP]
  simp
def wm (w : Wo) (row : List Pc) : Wo := ⟨minus w.vs row, w.rs, w.os⟩
def wp (w : Wo) (row : List Pc) : Wo := ⟨w.vs ++ row, w.rs, w.os⟩
theorem wm_ok {w : Wo} (ok : WoOk w) (row : List Pc) : WoOk (wm w row) :=
  ⟨fun p hp => ok.vs p (mem_minus.mp hp).1, minus_nd row ok.v1, Nat.le_trans (minus_len _ _) ok.vl, ok.rs, ok.rl, ok.os, ok.ol, ok.o1, ok.on⟩
theorem wp_ok {w : Wo} (ok : WoOk w) {row : List Pc} (h : ∀ p ∈ row, PcOk p) (n : row.Nodup) (d : ∀ p ∈ row, p ∉ w.vs) (l : w.vs.length + row.length ≤ 16) : WoOk (wp w row) :=
  ⟨fun p hp => (List.mem_append.mp hp).elim (ok.vs p) (h p), List.nodup_append.mpr ⟨ok.v1, n, fun a ha b hb e => d b hb (e ▸ ha)⟩, by show (w.vs ++ row).length ≤ 16; rw [List.length_append]; exact l, ok.rs, ok.rl, ok.os, ok.ol, ok.o1, ok.on⟩
theorem without (k : Nat) {w : Wo} {row : List Pc} (ok : WoOk w) (h : ∀ p ∈ row, PcOk p) : run Fs (k + 1) 27 [.d (eW w), .d (ePs row)] [] = .ok (.val (.d (eW (wm w row)))) [] := by
  have vl := ok.vl
  have c : ev (run Fs k) c0__law_without [some (.d (eW w)), some (.d (ePs row)), none] [] = .ok (.lst ((minus w.vs row).map eP)) [] :=
    comp_ty (enc := eP) (fun p => !decide (p ∈ row)) eP (by simp [lim, startE, execs, exec, ev, evT, evs, evI, M.bind, M.pure, M.lift, val, datum, settle, toDM, toDwM, toD, toDw, cellAt, Vl.asD, binO, addO, cmpO, eqO_int, eqO_str, eqO_b2, ltO, leO, isNone, truthO, lenO, bindO, bindT, bindTs, wipeE, wipes, bltO, asBools, isaO, setM, leave, exitO, callM, callIn, cellsAt, putBack, outBack, alloc, mthM, preM, toDsM, allD, cont, partO, isAbs, optI, itemsO, noExc, atom, smallI, idx_eW0, idx_eW1, idx_eW2, idx_eL0, idx_eL1, idx_eL2, idx_eL3, idx_eR3, idx_eRow, idx_cons0, cut_eR, ePs]) rfl (by show _ ≤ 1000000; omega) fun p hp => ⟨_, rfl, by
      have io := inO_eP (ok.vs p hp) h
      simp [lim, startE, execs, exec, ev, evT, evs, evI, M.bind, M.pure, M.lift, val, datum, settle, toDM, toDwM, toD, toDw, cellAt, Vl.asD, binO, addO, cmpO, eqO_int, eqO_str, eqO_b2, ltO, leO, isNone, truthO, lenO, bindO, bindT, bindTs, wipeE, wipes, bltO, asBools, isaO, setM, leave, exitO, callM, callIn, cellsAt, putBack, outBack, alloc, mthM, preM, toDsM, allD, cont, partO, isAbs, optI, itemsO, noExc, atom, smallI, idx_eW0, idx_eW1, idx_eW2, idx_eL0, idx_eL1, idx_eL2, idx_eL3, idx_eR3, idx_eRow, idx_cons0, cut_eR, io], fun _ => by simp [lim, startE, execs, exec, ev, evT, evs, evI, M.bind, M.pure, M.lift, val, datum, settle, toDM, toDwM, toD, toDw, cellAt, Vl.asD, binO, addO, cmpO, eqO_int, eqO_str, eqO_b2, ltO, leO, isNone, truthO, lenO, bindO, bindT, bindTs, wipeE, wipes, bltO, asBools, isaO, setM, leave, exitO, callM, callIn, cellsAt, putBack, outBack, alloc, mthM, preM, toDsM, allD, cont, partO, isAbs, optI, itemsO, noExc, atom, smallI, idx_eW0, idx_eW1, idx_eW2, idx_eL0, idx_eL1, idx_eL2, idx_eL3, idx_eR3, idx_eRow, idx_cons0, cut_eR]⟩
  have ew : PyData.tuple [.list ((minus w.vs row).map eP), .list (w.rs.map eR), ePs w.os] = eW (wm w row) := rfl
  rw [run_at (fn := f__law_without) rfl rfl]
  rw [← ew]
  generalize (minus w.vs row).map eP = Z at c
  simp [f__law_without, lim, startE, execs, exec, ev, evT, evs, evI, M.bind, M.pure, M.lift, val, datum, settle, toDM, toDwM, toD, toDw, cellAt, Vl.asD, binO, addO, cmpO, eqO_int, eqO_str, eqO_b2, ltO, leO, isNone, truthO, lenO, bindO, bindT, bindTs, wipeE, wipes, bltO, asBools, isaO, setM, leave, exitO, callM, callIn, cellsAt, putBack, outBack, alloc, mthM, preM, toDsM, allD, cont, partO, isAbs, optI, itemsO, noExc, atom, smallI, idx_eW0, idx_eW1, idx_eW2, idx_eL0, idx_eL1, idx_eL2, idx_eL3, idx_eR3, idx_eRow, idx_cons0, cut_eR, c]
theorem bi_pcs {A B : List Pc} (h : A.length + B.length ≤ 10000) : binO .add (ePs A) (ePs B) = some (.lst ((A ++ B).map eP)) := by
  unfold ePs
  rw [bi_list (by simp only [List.length_map]; show _ ≤ 1000000; omega), List.map_append]
theorem with_ (k : Nat) {w : Wo} {row : List Pc} (h : w.vs.length + row.length ≤ 10000) : run Fs (k + 1) 28 [.d (eW w), .d (ePs row)] [] = .ok (.val (.d (eW (wp w row)))) [] := by
  have ad := bi_pcs h
  have ew : PyData.tuple [.list ((w.vs ++ row).map eP), .list (w.rs.map eR), ePs w.os] = eW (wp w row) := rfl
  rw [run_at (fn := f__law_with) rfl rfl]
  rw [← ew]
  generalize (w.vs ++ row).map eP = Z at ad
  simp [f__law_with, lim, startE, execs, exec, ev, evT, evs, evI, M.bind, M.pure, M.lift, val, datum, settle, toDM, toDwM, toD, toDw, cellAt, Vl.asD, cmpO, eqO_int, eqO_str, eqO_b2, ltO, leO, isNone, truthO, bindT, bindTs, wipeE, wipes, bltO, asBools, isaO, setM, leave, exitO, callM, callIn, cellsAt, putBack, outBack, alloc, mthM, preM, toDsM, allD, cont, partO, isAbs, optI, itemsO, noExc, atom, smallI, idx_eW0, idx_eW1, idx_eW2, idx_eL0, idx_eL1, idx_eL2, idx_eL3, idx_eR3, idx_eRow, idx_cons0, cut_eR, bindO.eq_1, bind_eP, bind_eW, len_list, len_ePs, bi_add, bi_sub, bi_mulpow, bi_pow7, ad]
structure Gd (w : Wo) (one other more : List Pc) : Prop where
  ok : WoOk w
  vl : w.vs.length ≤ 6
  o1 : ∀ p ∈ one, p ∈ w.vs
  n1 : one.Nodup
  o2 : ∀ p ∈ other, p ∈ w.vs
  n2 : other.Nodup
  dis : ∀ p ∈ one, p ∉ other
  m : ∀ p ∈ more, PcOk p
  mn : more.Nodup
  md : ∀ p ∈ more, p ∉ w.vs
  ml : more.length ≤ 3
theorem idx_pair0 (A B : List Pc) : idxO (pairD A B) (.int 0) = some (ePs (srt A)) := rfl
theorem idx_pair1 (A B : List Pc) : idxO (pairD A B) (.int 1) = some (ePs (srt B)) := rfl
theorem app_nd {A B : List Pc} (a : A.Nodup) (b : B.Nodup) (d : ∀ p ∈ A, p ∉ B) : (srt A ++ srt B).Nodup :=
  List.nodup_append.mpr ⟨srt_nd a, srt_nd b, fun x hx y hy e => d x (mem_srt.mp hx) (mem_srt.mp (e ▸ hy))⟩
theorem sum_same {f g h : Pc → Option Int} {A B C D A' B' : List Pc} (t1 : Tell f g A A') (t2 : Tell g h B B') (t3 : Tell f h C D) (m1 : ∀ p i, g p = some i → ∃ j, f p = some j) (m2 : ∀ p i, h p = some i → ∃ j, g p = some j) : srt (srt A ++ srt B) = srt C := by
  refine srt_same (app_nd t1.oneA t2.oneA fun p hp hq => ?_) t3.oneA fun p => ?_
  · obtain ⟨_, n⟩ := (t1.memA p).mp hp
    obtain ⟨⟨i, e⟩, _⟩ := (t2.memA p).mp hq
    rw [n] at e; cases e
  · rw [List.mem_append, mem_srt, mem_srt, t1.memA, t2.memA, t3.memA]
    constructor
    · rintro (⟨a, n⟩ | ⟨⟨i, a⟩, n⟩)
      · refine ⟨a, ?_⟩
        cases z : h p with
        | none => rfl
        | some i => obtain ⟨j, e⟩ := m2 p i z; rw [n] at e; cases e
      · exact ⟨m1 p i a, n⟩
    · rintro ⟨a, n⟩
      cases z : g p with
      | none => exact .inl ⟨a, rfl⟩
      | some i => exact .inr ⟨⟨i, rfl⟩, n⟩
theorem c0_rt {C : CallT} {A B Z : List Pc} (ha : ∀ p ∈ srt B, PcOk p) (hz : ∀ p ∈ Z, PcOk p) (hl : (srt B).length ≤ 10000) (sub : ∀ p ∈ srt B, p ∈ Z) {w0 w1 w2 w3 w4 w6 w7 w10 w11 w12 : Option Vl} {S : Store} :
    ev C c0__law_right [w0, w1, w2, w3, w4, some (.d (pairD A B)), w6, w7, some (.d (ePs Z)), none, w10, w11, w12] S = .ok (.lst []) S := by
  have := comp_ty (enc := eP) (C := C) (own := [9]) (t := .nm 9) (it := .x (.idx (.var 5) (.cst (.int 1)))) (c := .cmp .nin (.var 9) (.var 8)) (e := .var 9) (E := [w0, w1, w2, w3, w4, some (.d (pairD A B)), w6, w7, some (.d (ePs Z)), none, w10, w11, w12]) (S := S) (S1 := S) (xs := srt B) (fun p => !decide (p ∈ Z)) eP (by simp [lim, startE, execs, exec, ev, evT, evs, evI, M.bind, M.pure, M.lift, val, datum, settle, toDM, toDwM, toD, toDw, cellAt, Vl.asD, binO, addO, cmpO, eqO_int, eqO_str, eqO_b2, ltO, leO, isNone, truthO, lenO, bindO, bindT, bindTs, wipeE, wipes, bltO, asBools, isaO, setM, leave, exitO, callM, callIn, cellsAt, putBack, outBack, alloc, mthM, preM, toDsM, allD, cont, partO, isAbs, optI, itemsO, noExc, atom, smallI, idx_eW0, idx_eW1, idx_eW2, idx_eL0, idx_eL1, idx_eL2, idx_eL3, idx_eR3, idx_eRow, idx_cons0, cut_eR, idx_pair1, ePs]) rfl (by show _ ≤ 1000000; omega) fun p hp => ⟨_, rfl, by
    have io := inO_eP (ha p hp) hz
    simp [lim, startE, execs, exec, ev, evT, evs, evI, M.bind, M.pure, M.lift, val, datum, settle, toDM, toDwM, toD, toDw, cellAt, Vl.asD, binO, addO, cmpO, eqO_int, eqO_str, eqO_b2, ltO, leO, isNone, truthO, lenO, bindO, bindT, bindTs, wipeE, wipes, bltO, asBools, isaO, setM, leave, exitO, callM, callIn, cellsAt, putBack, outBack, alloc, mthM, preM, toDsM, allD, cont, partO, isAbs, optI, itemsO, noExc, atom, smallI, idx_eW0, idx_eW1, idx_eW2, idx_eL0, idx_eL1, idx_eL2, idx_eL3, idx_eR3, idx_eRow, idx_cons0, cut_eR, io], fun _ => by simp [lim, startE, execs, exec, ev, evT, evs, evI, M.bind, M.pure, M.lift, val, datum, settle, toDM, toDwM, toD, toDw, cellAt, Vl.asD, binO, addO, cmpO, eqO_int, eqO_str, eqO_b2, ltO, leO, isNone, truthO, lenO, bindO, bindT, bindTs, wipeE, wipes, bltO, asBools, isaO, setM, leave, exitO, callM, callIn, cellsAt, putBack, outBack, alloc, mthM, preM, toDsM, allD, cont, partO, isAbs, optI, itemsO, noExc, atom, smallI, idx_eW0, idx_eW1, idx_eW2, idx_eL0, idx_eL1, idx_eL2, idx_eL3, idx_eR3, idx_eRow, idx_cons0, cut_eR]⟩
  have e : (srt B).filter (fun p => !decide (p ∈ Z)) = [] := List.filter_eq_nil_iff.mpr fun p hp => by simpa using sub p hp
  rw [e] at this
  exact this
theorem bi_pow12 : binO .pow (.int 10) (.int 12) = some (.val (.d (.int 1000000000000))) := by
  simp [binO]
theorem c1_rt {C : CallT} {H G : List (Pc × Int)} (one : (H.map (·.1)).Nodup) (sub : ∀ p i, getK H p = some i → ∃ j, j ≤ i ∧ getK G p = some j) (hl : H.length ≤ 10000) {w0 w1 w2 w3 w4 w5 w6 w7 w8 w12 : Option Vl} {S : Store} :
    ev C c1__law_right [w0, w1, w2, w3, w4, w5, w6, w7, w8, none, some (.d (.dict (eH G))), some (.d (.dict (eH H))), w12] S = .ok (.lst []) S := by
  have := comp_ty (enc := fun q : Pc × Int => eP q.1) (C := C) (own := [9]) (t := .nm 9) (it := .keys 11) (c := .cmp .gt (.dgt2 (.var 10) (.var 9) (.bin .pow (.cst (.int 10)) (.cst (.int 12)))) (.idx (.var 11) (.var 9))) (e := .var 9) (E := [w0, w1, w2, w3, w4, w5, w6, w7, w8, none, some (.d (.dict (eH G))), some (.d (.dict (eH H))), w12]) (S := S) (S1 := S) (xs := H) (fun _ => false) (fun q => eP q.1) (ev_keysD rfl) rfl (by show _ ≤ 1000000; omega) fun q hq => by
    have qi := getK_at one hq
    obtain ⟨j, hj, gj⟩ := sub _ _ qi
    have ix := idx_H (H := H) (p := q.1) (i := q.2) qi
    have go := getO_H1 G q.1 1000000000000
    rw [show getH G q.1 = some j from gj] at go
    have nlt : ¬ q.2 < j := by omega
    refine ⟨_, rfl, ?_, nofun⟩
    simp [lim, startE, execs, exec, ev, evT, evs, evI, M.bind, M.pure, M.lift, val, datum, settle, toDM, toDwM, toD, toDw, cellAt, Vl.asD, cmpO, eqO_int, eqO_str, eqO_b2, ltO, leO, isNone, truthO, bindT, bindTs, wipeE, wipes, bltO, asBools, isaO, setM, leave, exitO, callM, callIn, cellsAt, putBack, outBack, alloc, mthM, preM, toDsM, allD, cont, partO, isAbs, optI, itemsO, noExc, atom, smallI, bindO.eq_1, bi_add, bi_sub, preDM, bi_pow12, go, ix, nlt]
  rw [List.filter_eq_nil_iff.mpr (fun _ _ => by simp)] at this
  exact this

end Lf

set_option Elab.async false
set_option linter.all false
set_option maxRecDepth 100000
set_option maxHeartbeats 4000000
set_option exponentiation.threshold 4000
namespace Lf
open PySem PySem.Spec PyProof.Rows L2
theorem bind_2 (ts : Tgs) (x y : PyData) (E : Env) : bindO (.tp ts) (.val (.d (.tuple [x, y]))) E = bindTs ts [x, y] E := rfl
theorem add_sort {A B C : List Pc} (h : srt (srt A ++ srt B) = srt C) (ha : A.length ≤ 1000) (hb : B.length ≤ 1000) : ∃ Z, binO .add (ePs (srt A)) (ePs (srt B)) = some (.lst Z) ∧ bltO .sortedR [.list Z] = some (.lst ((srt C).map eP)) := by
  have la := srt_len A
  have lb := srt_len B
  refine ⟨(srt A ++ srt B).map eP, bi_pcs (by omega), ?_⟩
  rw [sorted_eP _ (by rw [List.length_append]; show _ ≤ 1000000; omega), h]
theorem law_right (k : Nat) {w : Wo} {one other more : List Pc} (g : Gd w one other more) : run Fs (k + 10) 29 [.d (eW w), .d (ePs one), .d (ePs other), .d (ePs more)] [] = .ok (.val (.d (.bool true))) [] := by
  have ok := g.ok
  have vl := g.vl
  have ml := g.ml
  have op : ∀ p ∈ one, PcOk p := fun p hp => ok.vs p (g.o1 p hp)
  have oq : ∀ p ∈ other, PcOk p := fun p hp => ok.vs p (g.o2 p hp)
  have ol : one.length ≤ 6 := Nat.le_trans (sub_lenA g.n1 g.o1) vl
  have ol2 : other.length ≤ 6 := Nat.le_trans (sub_lenA g.n2 g.o2) vl
  have bn : (one ++ other).Nodup := List.nodup_append.mpr ⟨g.n1, g.n2, fun a ha b hb e => g.dis a ha (e ▸ hb)⟩
  have bo : ∀ p ∈ one ++ other, p ∈ w.vs := fun p hp => (List.mem_append.mp hp).elim (g.o1 p) (g.o2 p)
  have bp : ∀ p ∈ one ++ other, PcOk p := fun p hp => ok.vs p (bo p hp)
  have okb := wm_ok ok one
  have okc := wm_ok ok (one ++ other)
  have oko := wm_ok ok other
  have okp := wp_ok ok g.m g.mn g.md (by omega)
  have lo := lvs_ok ok
  have v1 := ok.v1
  have n1 : ∀ row : List Pc, (minus w.vs row).Nodup := fun row => minus_nd row v1
  have napp : ∀ (A row : List Pc), A.Nodup → row.Nodup → (∀ p ∈ row, p ∉ A) → (A ++ row).Nodup := fun A row a b d => List.nodup_append.mpr ⟨a, b, fun x hx y hy e => d y hy (e ▸ hx)⟩
  have out : ∀ (V row : List Pc), ∀ p ∈ row, p ∉ minus V row := fun V row p hp z => (mem_minus.mp z).2 hp
  -- what is told
  obtain ⟨A1, B1, e1, t1⟩ := falls (k + 1) w one ok g.o1 g.n1
  obtain ⟨A2, B2, e2, t2⟩ := gains (k + 1) (wm w one) one okb op g.n1 (out w.vs one) (by omega)
  obtain ⟨A3, B3, e3, t3⟩ := gains (k + 1) w more ok g.m g.mn g.md (by omega)
  obtain ⟨A4, B4, e4, t4⟩ := falls (k + 1) (wp w more) more okp (fun p hp => List.mem_append_right _ hp) g.mn
  obtain ⟨A5, B5, e5, t5⟩ := falls (k + 1) (wm w one) other okb (fun p hp => mem_minus.mpr ⟨g.o2 p hp, fun z => g.dis p z hp⟩) g.n2
  obtain ⟨A6, B6, e6, t6⟩ := falls (k + 1) w (one ++ other) ok bo bn
  obtain ⟨A7, B7, e7, t7⟩ := gains (k + 1) (wm w (one ++ other)) one okc op g.n1 (fun p hp z => (mem_minus.mp z).2 (List.mem_append_left _ hp)) (by omega)
  obtain ⟨A8, B8, e8, t8⟩ := gains (k + 1) (wm w other) other oko oq g.n2 (out w.vs other) (by omega)
  obtain ⟨Hw, e9, h9⟩ := least (k + 1) (wp w more) okp
  obtain ⟨Ht, e10, h10⟩ := least (k + 1) w ok
  have lb : lvs (wm w one) = lvs w := rfl
  have lc : lvs (wm w (one ++ other)) = lvs w := rfl
  have ld : lvs (wm w other) = lvs w := rfl
  have lp : lvs (wp w more) = lvs w := rfl
  -- the same vouched places, the same heights
  have f2 : lf (minus w.vs one ++ one) (lvs w) = lf w.vs (lvs w) := lf_same (napp _ _ (n1 one) g.n1 (out _ _)) v1 lo fun p => by
    rw [List.mem_append, mem_minus]
    exact ⟨fun z => z.elim (·.1) (g.o1 p), fun z => by by_cases q : p ∈ one; exact .inr q; exact .inl ⟨z, q⟩⟩
  have f4 : lf (minus (w.vs ++ more) more) (lvs w) = lf w.vs (lvs w) := lf_same (minus_nd _ okp.v1) v1 lo fun p => by
    rw [mem_minus, List.mem_append]
    exact ⟨fun z => z.1.resolve_right z.2, fun z => ⟨.inl z, fun q => g.md p q z⟩⟩
  have f5 : lf (minus (minus w.vs one) other) (lvs w) = lf (minus w.vs (one ++ other)) (lvs w) := lf_same (minus_nd _ (n1 one)) (n1 _) lo fun p => by
    rw [mem_minus, mem_minus, mem_minus, List.mem_append]
    exact ⟨fun z => ⟨z.1.1, fun q => q.elim z.1.2 z.2⟩, fun z => ⟨⟨z.1, fun q => z.2 (.inl q)⟩, fun q => z.2 (.inr q)⟩⟩
  have f7 : lf (minus w.vs (one ++ other) ++ one) (lvs w) = lf (minus w.vs other) (lvs w) := lf_same (napp _ _ (n1 _) g.n1 fun p hp z => (mem_minus.mp z).2 (List.mem_append_left _ hp)) (n1 _) lo fun p => by
    rw [List.mem_append, mem_minus, mem_minus, List.mem_append]
    exact ⟨fun z => z.elim (fun z => ⟨z.1, fun q => z.2 (.inr q)⟩) (fun z => ⟨g.o1 p z, g.dis p z⟩), fun z => by by_cases q : p ∈ one; exact .inr q; exact .inl ⟨z.1, fun y => y.elim q z.2⟩⟩
  have f8 : lf (minus w.vs other ++ other) (lvs w) = lf w.vs (lvs w) := lf_same (napp _ _ (n1 other) g.n2 (out _ _)) v1 lo fun p => by
    rw [List.mem_append, mem_minus]
    exact ⟨fun z => z.elim (·.1) (g.o2 p), fun z => by by_cases q : p ∈ other; exact .inr q; exact .inl ⟨z, q⟩⟩
  have t2 : Tell (lf (minus w.vs one ++ one) (lvs w)) (lf (minus w.vs one) (lvs w)) A2 B2 := t2
  have t4 : Tell (lf (w.vs ++ more) (lvs w)) (lf (minus (w.vs ++ more) more) (lvs w)) A4 B4 := t4
  have t5 : Tell (lf (minus w.vs one) (lvs w)) (lf (minus (minus w.vs one) other) (lvs w)) A5 B5 := t5
  have t7 : Tell (lf (minus w.vs (one ++ other) ++ one) (lvs w)) (lf (minus w.vs (one ++ other)) (lvs w)) A7 B7 := t7
  have t8 : Tell (lf (minus w.vs other ++ other) (lvs w)) (lf (minus w.vs other) (lvs w)) A8 B8 := t8
  rw [f2] at t2
  rw [f4] at t4
  rw [f5] at t5
  rw [f7] at t7
  rw [f8] at t8
  have m1 : ∀ p i, lf (minus w.vs one) (lvs w) p = some i → ∃ j, j ≤ i ∧ lf w.vs (lvs w) p = some j := lf_mono (n1 _) v1 lo fun p hp => (mem_minus.mp hp).1
  have m2 : ∀ p i, lf (minus w.vs (one ++ other)) (lvs w) p = some i → ∃ j, j ≤ i ∧ lf (minus w.vs one) (lvs w) p = some j := lf_mono (n1 _) (n1 _) lo fun p hp => mem_minus.mpr ⟨(mem_minus.mp hp).1, fun z => (mem_minus.mp hp).2 (List.mem_append_left _ z)⟩
  have m3 : ∀ p i, lf (minus w.vs other) (lvs w) p = some i → ∃ j, j ≤ i ∧ lf w.vs (lvs w) p = some j := lf_mono (n1 _) v1 lo fun p hp => (mem_minus.mp hp).1
  have m4 : ∀ p i, lf (minus w.vs (one ++ other)) (lvs w) p = some i → ∃ j, j ≤ i ∧ lf (minus w.vs other) (lvs w) p = some j := lf_mono (n1 _) (n1 _) lo fun p hp => mem_minus.mpr ⟨(mem_minus.mp hp).1, fun z => (mem_minus.mp hp).2 (List.mem_append_right _ z)⟩
  obtain ⟨q1, q1'⟩ := t1.same t2 rfl rfl
  obtain ⟨q3, q3'⟩ := t3.same t4 rfl rfl
  have pe2 : pairD A2 B2 = pairD A1 B1 := by unfold pairD; rw [q1, q1']
  have pe4 : pairD A4 B4 = pairD A3 B3 := by unfold pairD; rw [q3, q3']
  rw [pe2] at e2
  rw [pe4] at e4
  have same1 := eqO_pair t1.pcA t1.pcB
  have same3 := eqO_pair t3.pcA t3.pcB
  have s15 : srt (srt A1 ++ srt A5) = srt A6 := sum_same t1 t5 t6 (fun p i z => (m1 p i z).imp fun _ h => h.2) (fun p i z => (m2 p i z).imp fun _ h => h.2)
  have s78 : srt (srt A7 ++ srt A8) = srt A6 := by
    rw [← sum_same t8 t7 t6 (fun p i z => (m3 p i z).imp fun _ h => h.2) (fun p i z => (m4 p i z).imp fun _ h => h.2)]
    exact srt_eq List.perm_append_comm
  obtain ⟨Z1, ad1, so1⟩ := add_sort s15 t1.lenA t5.lenA
  obtain ⟨Z2, ad2, so2⟩ := add_sort s78 t7.lenA t8.lenA
  have eq6 := eqO_pcs (A := srt A6) fun p hp => t6.pcA p (mem_srt.mp hp)
  obtain ⟨Zo, hZo⟩ : ∃ Z, Z = (one ++ other).map eP := ⟨_, rfl⟩
  have ado : binO .add (ePs one) (ePs other) = some (.lst Zo) := by rw [hZo]; exact bi_pcs (by omega)
  have e6 : run Fs (k + 9) 16 [.d (eW w), .d (.list Zo)] [] = .ok (.val (.d (pairD A6 B6))) [] := by rw [hZo]; exact e6
  have wo : run Fs (k + 9) 27 [.d (eW w), .d (.list Zo)] [] = .ok (.val (.d (eW (wm w (one ++ other))))) [] := by rw [hZo]; exact without (k + 8) ok bp
  have w1 : run Fs (k + 9) 27 [.d (eW w), .d (ePs one)] [] = _ := without (k + 8) ok op
  have w2 : run Fs (k + 9) 27 [.d (eW w), .d (ePs other)] [] = _ := without (k + 8) ok oq
  have w3 : run Fs (k + 9) 28 [.d (eW w), .d (ePs more)] [] = _ := with_ (k + 8) (by omega)
  obtain ⟨Zl, hZl⟩ : ∃ Z, Z = srt A6 ++ srt B6 := ⟨_, rfl⟩
  have l6 := srt_len A6
  have l6' := srt_len B6
  have l1 := srt_len B1
  have t6a := t6.lenA
  have t6b := t6.lenB
  have t1b := t1.lenB
  have adl : binO .add (ePs (srt A6)) (ePs (srt B6)) = some (.lst (Zl.map eP)) := by rw [hZl]; exact bi_pcs (by omega)
  have zl : PyData.list (Zl.map eP) = ePs Zl := rfl
  have c0 := fun w0 w1 w2 w3 w4 w6 w7 w10 w11 w12 S => c0_rt (C := run Fs (k + 9)) (A := A1) (B := B1) (Z := Zl) (fun p hp => t1.pcB p (mem_srt.mp hp)) (fun p hp => by
    rw [hZl] at hp
    exact (List.mem_append.mp hp).elim (fun z => t6.pcA p (mem_srt.mp z)) (fun z => t6.pcB p (mem_srt.mp z))) (by omega) (fun p hp => by
    rw [hZl, List.mem_append, mem_srt, mem_srt, t6.memA, t6.memB]
    obtain ⟨i, j, hi, hj, l⟩ := (t1.memB p).mp (mem_srt.mp hp)
    cases z : lf (minus w.vs (one ++ other)) (lvs w) p with
    | none => exact .inl ⟨⟨i, hi⟩, rfl⟩
    | some q =>
      obtain ⟨j', hj', z'⟩ := m2 p q z
      rw [hj] at z'; cases z'
      exact .inr ⟨i, q, hi, rfl, by omega⟩) (w0 := w0) (w1 := w1) (w2 := w2) (w3 := w3) (w4 := w4) (w6 := w6) (w7 := w7) (w10 := w10) (w11 := w11) (w12 := w12) (S := S)
  have hl10 := h10.len
  have ll := lvs_len ok
  have c1 := fun w0 w1 w2 w3 w4 w5 w6 w7 w8 w12 S => c1_rt (C := run Fs (k + 9)) (H := Ht) (G := Hw) h10.one (fun p i z => by
    rw [h10.lf] at z
    obtain ⟨j, hj, z'⟩ := lf_mono v1 okp.v1 lo (fun p hp => List.mem_append_left _ hp) p i z
    exact ⟨j, hj, (h9.lf p).trans z'⟩) (by omega) (w0 := w0) (w1 := w1) (w2 := w2) (w3 := w3) (w4 := w4) (w5 := w5) (w6 := w6) (w7 := w7) (w8 := w8) (w12 := w12) (S := S)
  have nil : eqO (.list []) (.list []) = some true := rfl
  have e1 : run Fs (k + 9) 16 [.d (eW w), .d (ePs one)] [] = _ := e1
  have e2 : run Fs (k + 9) 17 [.d (eW (wm w one)), .d (ePs one)] [] = _ := e2
  have e3 : run Fs (k + 9) 17 [.d (eW w), .d (ePs more)] [] = _ := e3
  have e4 : run Fs (k + 9) 16 [.d (eW (wp w more)), .d (ePs more)] [] = _ := e4
  have e5 : run Fs (k + 9) 16 [.d (eW (wm w one)), .d (ePs other)] [] = _ := e5
  have e7 : run Fs (k + 9) 17 [.d (eW (wm w (one ++ other))), .d (ePs one)] [] = _ := e7
  have e8 : run Fs (k + 9) 17 [.d (eW (wm w other)), .d (ePs other)] [] = _ := e8
  have e9 : run Fs (k + 9) 14 [.d (eW (wp w more))] [] = _ := e9
  have e10 : run Fs (k + 9) 14 [.d (eW w)] [] = _ := e10
  -- the steps
  have s0 : exec (run Fs (k + 9)) (stm 0 f__law_right.body) [some (.d (eW w)), some (.d (ePs one)), some (.d (ePs other)), some (.d (ePs more)), none, none, none, none, none, none, none, none, none] [] = .ok (.nx, [some (.d (eW w)), some (.d (ePs one)), some (.d (ePs other)), some (.d (ePs more)), some (.d (eW (wm w one))), none, none, none, none, none, none, none, none]) [] := by
    simp [stm, f__law_right, lim, startE, execs, exec, ev, evT, evs, evI, M.bind, M.pure, M.lift, val, datum, settle, toDM, toDwM, toD, toDw, cellAt, Vl.asD, cmpO, eqO_int, eqO_str, eqO_b2, ltO, leO, isNone, truthO, bindT, bindTs, wipeE, wipes, asBools, isaO, setM, leave, exitO, callM, callIn, cellsAt, putBack, outBack, alloc, mthM, preM, toDsM, allD, cont, partO, isAbs, optI, itemsO, noExc, atom, smallI, idx_eW0, idx_eW1, idx_eW2, idx_eL0, idx_eL1, idx_eL2, idx_eL3, idx_eR3, idx_eRow, idx_cons0, cut_eR, bindO.eq_1, bind_eP, bind_eW, len_list, len_ePs, bi_add, bi_sub, w1]
  have s1 : exec (run Fs (k + 9)) (stm 1 f__law_right.body) [some (.d (eW w)), some (.d (ePs one)), some (.d (ePs other)), some (.d (ePs more)), some (.d (eW (wm w one))), none, none, none, none, none, none, none, none] [] = .ok (.nx, [some (.d (eW w)), some (.d (ePs one)), some (.d (ePs other)), some (.d (ePs more)), some (.d (eW (wm w one))), none, none, none, none, none, none, none, none]) [] := by
    simp [stm, f__law_right, lim, startE, execs, exec, ev, evT, evs, evI, M.bind, M.pure, M.lift, val, datum, settle, toDM, toDwM, toD, toDw, cellAt, Vl.asD, cmpO, eqO_int, eqO_str, eqO_b2, ltO, leO, isNone, truthO, bindT, bindTs, wipeE, wipes, asBools, isaO, setM, leave, exitO, callM, callIn, cellsAt, putBack, outBack, alloc, mthM, preM, toDsM, allD, cont, partO, isAbs, optI, itemsO, noExc, atom, smallI, idx_eW0, idx_eW1, idx_eW2, idx_eL0, idx_eL1, idx_eL2, idx_eL3, idx_eR3, idx_eRow, idx_cons0, cut_eR, bindO.eq_1, bind_eP, bind_eW, len_list, len_ePs, bi_add, bi_sub, e1, e2, e3, e4, w3, same1, same3]
  have s2 : exec (run Fs (k + 9)) (stm 2 f__law_right.body) [some (.d (eW w)), some (.d (ePs one)), some (.d (ePs other)), some (.d (ePs more)), some (.d (eW (wm w one))), none, none, none, none, none, none, none, none] [] = .ok (.nx, [some (.d (eW w)), some (.d (ePs one)), some (.d (ePs other)), some (.d (ePs more)), some (.d (eW (wm w one))), some (.d (pairD A1 B1)), some (.d (pairD A5 B5)), some (.d (pairD A6 B6)), none, none, none, none, none]) [] := by
    simp [stm, f__law_right, lim, startE, execs, exec, ev, evT, evs, evI, M.bind, M.pure, M.lift, val, datum, settle, toDM, toDwM, toD, toDw, cellAt, Vl.asD, cmpO, eqO_int, eqO_str, eqO_b2, ltO, leO, isNone, truthO, bindT, bindTs, wipeE, wipes, asBools, isaO, setM, leave, exitO, callM, callIn, cellsAt, putBack, outBack, alloc, mthM, preM, toDsM, allD, cont, partO, isAbs, optI, itemsO, noExc, atom, smallI, idx_eW0, idx_eW1, idx_eW2, idx_eL0, idx_eL1, idx_eL2, idx_eL3, idx_eR3, idx_eRow, idx_cons0, cut_eR, bindO.eq_1, bind_eP, bind_eW, len_list, len_ePs, bi_add, bi_sub, e1, e5, ado, e6]
  have s3 : exec (run Fs (k + 9)) (stm 3 f__law_right.body) [some (.d (eW w)), some (.d (ePs one)), some (.d (ePs other)), some (.d (ePs more)), some (.d (eW (wm w one))), some (.d (pairD A1 B1)), some (.d (pairD A5 B5)), some (.d (pairD A6 B6)), none, none, none, none, none] [] = .ok (.nx, [some (.d (eW w)), some (.d (ePs one)), some (.d (ePs other)), some (.d (ePs more)), some (.d (eW (wm w one))), some (.d (pairD A1 B1)), some (.d (pairD A5 B5)), some (.d (pairD A6 B6)), some (.d (ePs Zl)), none, none, none, none]) [] := by
    simp [stm, f__law_right, lim, startE, execs, exec, ev, evT, evs, evI, M.bind, M.pure, M.lift, val, datum, settle, toDM, toDwM, toD, toDw, cellAt, Vl.asD, cmpO, eqO_int, eqO_str, eqO_b2, ltO, leO, isNone, truthO, bindT, bindTs, wipeE, wipes, asBools, isaO, setM, leave, exitO, callM, callIn, cellsAt, putBack, outBack, alloc, mthM, preM, toDsM, allD, cont, partO, isAbs, optI, itemsO, noExc, atom, smallI, idx_eW0, idx_eW1, idx_eW2, idx_eL0, idx_eL1, idx_eL2, idx_eL3, idx_eR3, idx_eRow, idx_cons0, cut_eR, bindO.eq_1, bind_eP, bind_eW, len_list, len_ePs, bi_add, bi_sub, idx_pair0, idx_pair1, adl, zl]
  have s4 : exec (run Fs (k + 9)) (stm 4 f__law_right.body) [some (.d (eW w)), some (.d (ePs one)), some (.d (ePs other)), some (.d (ePs more)), some (.d (eW (wm w one))), some (.d (pairD A1 B1)), some (.d (pairD A5 B5)), some (.d (pairD A6 B6)), some (.d (ePs Zl)), none, none, none, none] [] = .ok (.nx, [some (.d (eW w)), some (.d (ePs one)), some (.d (ePs other)), some (.d (ePs more)), some (.d (eW (wm w one))), some (.d (pairD A1 B1)), some (.d (pairD A5 B5)), some (.d (pairD A6 B6)), some (.d (ePs Zl)), none, none, none, none]) [] := by
    simp [stm, f__law_right, lim, startE, execs, exec, ev, evT, evs, evI, M.bind, M.pure, M.lift, val, datum, settle, toDM, toDwM, toD, toDw, cellAt, Vl.asD, cmpO, eqO_int, eqO_str, eqO_b2, ltO, leO, isNone, truthO, bindT, bindTs, wipeE, wipes, asBools, isaO, setM, leave, exitO, callM, callIn, cellsAt, putBack, outBack, alloc, mthM, preM, toDsM, allD, cont, partO, isAbs, optI, itemsO, noExc, atom, smallI, idx_eW0, idx_eW1, idx_eW2, idx_eL0, idx_eL1, idx_eL2, idx_eL3, idx_eR3, idx_eRow, idx_cons0, cut_eR, bindO.eq_1, bind_eP, bind_eW, len_list, len_ePs, bi_add, bi_sub, idx_pair0, ad1, so1, eq6, c0, nil]
  have s5 : exec (run Fs (k + 9)) (stm 5 f__law_right.body) [some (.d (eW w)), some (.d (ePs one)), some (.d (ePs other)), some (.d (ePs more)), some (.d (eW (wm w one))), some (.d (pairD A1 B1)), some (.d (pairD A5 B5)), some (.d (pairD A6 B6)), some (.d (ePs Zl)), none, none, none, none] [] = .ok (.nx, [some (.d (eW w)), some (.d (ePs one)), some (.d (ePs other)), some (.d (ePs more)), some (.d (eW (wm w one))), some (.d (pairD A1 B1)), some (.d (pairD A5 B5)), some (.d (pairD A6 B6)), some (.d (ePs Zl)), none, some (.d (.dict (eH Hw))), some (.d (.dict (eH Ht))), none]) [] := by
    simp [stm, f__law_right, lim, startE, execs, exec, ev, evT, evs, evI, M.bind, M.pure, M.lift, val, datum, settle, toDM, toDwM, toD, toDw, cellAt, Vl.asD, cmpO, eqO_int, eqO_str, eqO_b2, ltO, leO, isNone, truthO, bindT, bindTs, wipeE, wipes, asBools, isaO, setM, leave, exitO, callM, callIn, cellsAt, putBack, outBack, alloc, mthM, preM, toDsM, allD, cont, partO, isAbs, optI, itemsO, noExc, atom, smallI, idx_eW0, idx_eW1, idx_eW2, idx_eL0, idx_eL1, idx_eL2, idx_eL3, idx_eR3, idx_eRow, idx_cons0, cut_eR, bindO.eq_1, bind_eP, bind_eW, len_list, len_ePs, bi_add, bi_sub, w3, e9, e10, bind_2]
  have s6 : exec (run Fs (k + 9)) (stm 6 f__law_right.body) [some (.d (eW w)), some (.d (ePs one)), some (.d (ePs other)), some (.d (ePs more)), some (.d (eW (wm w one))), some (.d (pairD A1 B1)), some (.d (pairD A5 B5)), some (.d (pairD A6 B6)), some (.d (ePs Zl)), none, some (.d (.dict (eH Hw))), some (.d (.dict (eH Ht))), none] [] = .ok (.nx, [some (.d (eW w)), some (.d (ePs one)), some (.d (ePs other)), some (.d (ePs more)), some (.d (eW (wm w one))), some (.d (pairD A1 B1)), some (.d (pairD A5 B5)), some (.d (pairD A6 B6)), some (.d (ePs Zl)), none, some (.d (.dict (eH Hw))), some (.d (.dict (eH Ht))), none]) [] := by
    simp [stm, f__law_right, lim, startE, execs, exec, ev, evT, evs, evI, M.bind, M.pure, M.lift, val, datum, settle, toDM, toDwM, toD, toDw, cellAt, Vl.asD, cmpO, eqO_int, eqO_str, eqO_b2, ltO, leO, isNone, truthO, bindT, bindTs, wipeE, wipes, asBools, isaO, setM, leave, exitO, callM, callIn, cellsAt, putBack, outBack, alloc, mthM, preM, toDsM, allD, cont, partO, isAbs, optI, itemsO, noExc, atom, smallI, idx_eW0, idx_eW1, idx_eW2, idx_eL0, idx_eL1, idx_eL2, idx_eL3, idx_eR3, idx_eRow, idx_cons0, cut_eR, bindO.eq_1, bind_eP, bind_eW, len_list, len_ePs, bi_add, bi_sub, c1, nil]
  have s7 : exec (run Fs (k + 9)) (stm 7 f__law_right.body) [some (.d (eW w)), some (.d (ePs one)), some (.d (ePs other)), some (.d (ePs more)), some (.d (eW (wm w one))), some (.d (pairD A1 B1)), some (.d (pairD A5 B5)), some (.d (pairD A6 B6)), some (.d (ePs Zl)), none, some (.d (.dict (eH Hw))), some (.d (.dict (eH Ht))), none] [] = .ok (.nx, [some (.d (eW w)), some (.d (ePs one)), some (.d (ePs other)), some (.d (ePs more)), some (.d (eW (wm w one))), some (.d (pairD A1 B1)), some (.d (pairD A5 B5)), some (.d (pairD A6 B6)), some (.d (ePs Zl)), none, some (.d (.dict (eH Hw))), some (.d (.dict (eH Ht))), some (.d (.list Z2))]) [] := by
    simp [stm, f__law_right, lim, startE, execs, exec, ev, evT, evs, evI, M.bind, M.pure, M.lift, val, datum, settle, toDM, toDwM, toD, toDw, cellAt, Vl.asD, cmpO, eqO_int, eqO_str, eqO_b2, ltO, leO, isNone, truthO, bindT, bindTs, wipeE, wipes, asBools, isaO, setM, leave, exitO, callM, callIn, cellsAt, putBack, outBack, alloc, mthM, preM, toDsM, allD, cont, partO, isAbs, optI, itemsO, noExc, atom, smallI, idx_eW0, idx_eW1, idx_eW2, idx_eL0, idx_eL1, idx_eL2, idx_eL3, idx_eR3, idx_eRow, idx_cons0, cut_eR, bindO.eq_1, bind_eP, bind_eW, len_list, len_ePs, bi_add, bi_sub, ado, wo, e7, w2, e8, idx_pair0, ad2]
  have s8 : execs (run Fs (k + 9)) (.cons (stm 8 f__law_right.body) .nil) [some (.d (eW w)), some (.d (ePs one)), some (.d (ePs other)), some (.d (ePs more)), some (.d (eW (wm w one))), some (.d (pairD A1 B1)), some (.d (pairD A5 B5)), some (.d (pairD A6 B6)), some (.d (ePs Zl)), none, some (.d (.dict (eH Hw))), some (.d (.dict (eH Ht))), some (.d (.list Z2))] [] = .ok (.rt (.val (.d (.bool true))), [some (.d (eW w)), some (.d (ePs one)), some (.d (ePs other)), some (.d (ePs more)), some (.d (eW (wm w one))), some (.d (pairD A1 B1)), some (.d (pairD A5 B5)), some (.d (pairD A6 B6)), some (.d (ePs Zl)), none, some (.d (.dict (eH Hw))), some (.d (.dict (eH Ht))), some (.d (.list Z2))]) [] := by
    simp [stm, f__law_right, lim, startE, execs, exec, ev, evT, evs, evI, M.bind, M.pure, M.lift, val, datum, settle, toDM, toDwM, toD, toDw, cellAt, Vl.asD, cmpO, eqO_int, eqO_str, eqO_b2, ltO, leO, isNone, truthO, bindT, bindTs, wipeE, wipes, asBools, isaO, setM, leave, exitO, callM, callIn, cellsAt, putBack, outBack, alloc, mthM, preM, toDsM, allD, cont, partO, isAbs, optI, itemsO, noExc, atom, smallI, idx_eW0, idx_eW1, idx_eW2, idx_eL0, idx_eL1, idx_eL2, idx_eL3, idx_eR3, idx_eRow, idx_cons0, cut_eR, bindO.eq_1, bind_eP, bind_eW, len_list, len_ePs, bi_add, bi_sub, so2, idx_pair0, eq6]
  have all : execs (run Fs (k + 9)) f__law_right.body (startE f__law_right [.d (eW w), .d (ePs one), .d (ePs other), .d (ePs more)]) [] = _ :=
    (ex_cons s0).trans ((ex_cons s1).trans ((ex_cons s2).trans ((ex_cons s3).trans ((ex_cons s4).trans ((ex_cons s5).trans ((ex_cons s6).trans ((ex_cons s7).trans s8)))))))
  rw [run_at (fn := f__law_right) rfl rfl, all]
  rfl

end Lf

set_option Elab.async false
set_option linter.all false
set_option maxRecDepth 100000
set_option maxHeartbeats 4000000
set_option exponentiation.threshold 4000
namespace Lf
open PySem PySem.Spec PyProof.Rows L2
/-! ### the law -/
/-! ### slices -/
theorem cut_map {α β : Type} (f : α → β) (xs : List α) (lo hi : Option Int) : cutL (xs.map f) lo hi = (cutL xs lo hi).map f := by
  unfold cutL
  rw [List.length_map, List.map_take, List.map_drop]
theorem sl_ty {α : Type} (f : α → PyData) (xs : List α) (lo hi : Option Int) : sliceO (.list (xs.map f)) lo hi = some (.lst ((cutL xs lo hi).map f)) := by
  show some (Out.lst (cutL _ _ _)) = _
  rw [cut_map]
theorem cut_sub {α : Type} {xs : List α} {lo hi : Option Int} {x : α} (h : x ∈ cutL xs lo hi) : x ∈ xs := List.mem_of_mem_drop (List.mem_of_mem_take h)
theorem cut_oneI {α : Type} (xs : List α) {a : Int} (h : 0 ≤ a) : (cutL xs (some a) (some (a + 1))).length ≤ 1 := by
  unfold cutL
  have e1 : HT.sIx xs.length 0 (some a) = min a.toNat xs.length := by
    show (if a < 0 then (a + (xs.length : Int)).toNat else min a.toNat xs.length) = _
    rw [if_neg (by omega)]
  have e2 : HT.sIx xs.length xs.length (some (a + 1)) = min (a + 1).toNat xs.length := by
    show (if a + 1 < 0 then (a + 1 + (xs.length : Int)).toNat else min (a + 1).toNat xs.length) = _
    rw [if_neg (by omega)]
  rw [e1, e2, List.length_take]
  omega
theorem cut_subl {α : Type} (xs : List α) (lo hi : Option Int) : (cutL xs lo hi).Sublist xs := (List.take_sublist _ _).trans (List.drop_sublist _ _)
theorem cut_apart {α : Type} {xs : List α} (n : xs.Nodup) {v : Int} (h : 0 ≤ v) (l : v ≤ xs.length) (hi : Option Int) : ∀ x ∈ cutL xs none (some v), x ∉ cutL xs (some v) hi := by
  intro x hx hy
  rw [cut_toI xs h] at hx
  have e1 : HT.sIx xs.length 0 (some v) = v.toNat := by
    show (if v < 0 then (v + (xs.length : Int)).toNat else min v.toNat xs.length) = _
    rw [if_neg (by omega)]; omega
  unfold cutL at hy
  rw [e1] at hy
  have hy := List.mem_of_mem_take hy
  rw [← List.take_append_drop v.toNat xs] at n
  exact (List.nodup_append.mp n).2.2 x hx x hy rfl
theorem bmin_i (a b : Int) : bltO .min2 [.int a, .int b] = some (.val (.d (.int (if b < a then b else a)))) := rfl
theorem bmax_i (a b : Int) : bltO .max2 [.int a, .int b] = some (.val (.d (.int (if b > a then b else a)))) := rfl

theorem c0_lw {C : CallT} {w : Wo} {ps : List Pc} (ok : WoOk w) (hp : ∀ p ∈ ps, PcOk p) (hl : ps.length ≤ 1000) {v0 v1 v2 v5 v6 v7 v8 v9 : Option Vl} {S : Store} :
    ev C c0_law [v0, v1, v2, some (.d (ePs ps)), some (.d (eW w)), v5, v6, v7, v8, v9, none] S = .ok (.lst ((minus ps w.vs).map eP)) S :=
  comp_ty (enc := eP) (fun p => !decide (p ∈ w.vs)) eP (by simp [lim, startE, execs, exec, ev, evT, evs, evI, M.bind, M.pure, M.lift, val, datum, settle, toDM, toDwM, toD, toDw, cellAt, Vl.asD, binO, addO, cmpO, eqO_int, eqO_str, eqO_b2, ltO, leO, isNone, truthO, lenO, bindO, bindT, bindTs, wipeE, wipes, bltO, asBools, isaO, setM, leave, exitO, callM, callIn, cellsAt, putBack, outBack, alloc, mthM, preM, toDsM, allD, cont, partO, isAbs, optI, itemsO, noExc, atom, smallI, idx_eW0, idx_eW1, idx_eW2, idx_eL0, idx_eL1, idx_eL2, idx_eL3, idx_eR3, idx_eRow, idx_cons0, cut_eR, ePs]) rfl (by show _ ≤ 1000000; omega) fun p hm => ⟨_, rfl, by
    have io := inO_eP (hp p hm) ok.vs
    simp [lim, startE, execs, exec, ev, evT, evs, evI, M.bind, M.pure, M.lift, val, datum, settle, toDM, toDwM, toD, toDw, cellAt, Vl.asD, binO, addO, cmpO, eqO_int, eqO_str, eqO_b2, ltO, leO, isNone, truthO, lenO, bindO, bindT, bindTs, wipeE, wipes, bltO, asBools, isaO, setM, leave, exitO, callM, callIn, cellsAt, putBack, outBack, alloc, mthM, preM, toDsM, allD, cont, partO, isAbs, optI, itemsO, noExc, atom, smallI, idx_eW0, idx_eW1, idx_eW2, idx_eL0, idx_eL1, idx_eL2, idx_eL3, idx_eR3, idx_eRow, idx_cons0, cut_eR, io], fun _ => by simp [lim, startE, execs, exec, ev, evT, evs, evI, M.bind, M.pure, M.lift, val, datum, settle, toDM, toDwM, toD, toDw, cellAt, Vl.asD, binO, addO, cmpO, eqO_int, eqO_str, eqO_b2, ltO, leO, isNone, truthO, lenO, bindO, bindT, bindTs, wipeE, wipes, bltO, asBools, isaO, setM, leave, exitO, callM, callIn, cellsAt, putBack, outBack, alloc, mthM, preM, toDsM, allD, cont, partO, isAbs, optI, itemsO, noExc, atom, smallI, idx_eW0, idx_eW1, idx_eW2, idx_eL0, idx_eL1, idx_eL2, idx_eL3, idx_eR3, idx_eRow, idx_cons0, cut_eR]⟩
theorem law_step (k : Nat) (ns : List Int) (kk : Int) (h0 : 0 ≤ kk) (h1 : kk ≤ 20) (v2 v3 v4 v5 v6 v7 v8 v9 : Option Vl) (S : Store) :
    ∃ v2' v3' v4' v5' v6' v7' v8' v9' S', execs (run Fs (k + 10)) b1_law [some (.scr ns), some (.d (.int kk)), v2, v3, v4, v5, v6, v7, v8, v9, none] S =
      .ok (.nx, [some (.scr ns), some (.d (.int kk)), v2', v3', v4', v5', v6', v7', v8', v9', none]) S' := by
  obtain ⟨x0, e0, p0⟩ := pot (k + 9) ns kk h0 h1
  obtain ⟨ps, x1, e1, hps, p1⟩ := places (k + 7) 0 x0 p0 (by omega)
  obtain ⟨w, x2, e2, ok, wps, wl, p2⟩ := few_ (k + 5) _ x1 ps 6 (by decide) (by decide) p1 (by omega) hps
  have l2 := hps.l2
  have wl6 : w.vs.length ≤ 6 := by omega
  obtain ⟨A, x3, e3, a1, a2, a3, p3⟩ := some_ (k + 8) _ x2 w.vs 6 p2 (by omega) (by decide) (by decide) (by omega) ok.v1
  have al : A.length ≤ 6 := Nat.le_trans (sub_lenA a1 a2) wl6
  obtain ⟨a, x4, e4, aa0, aa1, p4⟩ := take (k + 9) _ x3 ((A.length : Int) + 1) p3 (by omega) (by omega) (by omega)
  obtain ⟨b, x5, e5, b0, b1, p5⟩ := take (k + 9) _ x4 ((A.length : Int) + 1) p4 (by omega) (by omega) (by omega)
  have c0 := fun v0 v1 v2 v5 v6 v7 v8 v9 S => c0_lw (C := run Fs (k + 10)) (w := w) (ps := ps) ok hps.pc (by omega) (v0 := v0) (v1 := v1) (v2 := v2) (v5 := v5) (v6 := v6) (v7 := v7) (v8 := v8) (v9 := v9) (S := S)
  obtain ⟨q, x6, e6, q0, q1, p6⟩ := take (k + 9) _ x5 3 p5 (by omega) (by decide) (by decide)
  have ol := minus_len ps w.vs
  obtain ⟨Mo, x7, e7, m1, m2, m3, p7⟩ := some_ (k + 8) _ x6 (minus ps w.vs) (1 + q) p6 (by omega) (by omega) (by omega) (by omega) (minus_nd w.vs hps.one)
  have ml : Mo.length ≤ 3 := by split at m3 <;> omega
  obtain ⟨lo, hlo⟩ : ∃ z, z = (if b < a then b else a) := ⟨_, rfl⟩
  obtain ⟨hi, hhi⟩ : ∃ z, z = (if b > a then b else a) := ⟨_, rfl⟩
  have lo0 : 0 ≤ lo := by rw [hlo]; split <;> omega
  have lo1 : lo ≤ A.length := by rw [hlo]; split <;> omega
  have bmn := bmin_i a b
  have bmx := bmax_i a b
  rw [← hlo] at bmn
  rw [← hhi] at bmx
  have sl1 := sl_ty eP A none (some lo)
  have sl2 := sl_ty eP A (some lo) (some hi)
  have g : Gd w (cutL A none (some lo)) (cutL A (some lo) (some hi)) Mo :=
    ⟨ok, wl6, fun p hp => a2 p (cut_sub hp), a1.sublist (cut_subl _ _ _), fun p hp => a2 p (cut_sub hp), a1.sublist (cut_subl _ _ _), cut_apart a1 lo0 lo1 _, fun p hp => hps.pc p (mem_minus.mp (m2 p hp)).1, m1, fun p hp => (mem_minus.mp (m2 p hp)).2, ml⟩
  have lr := law_right k g
  generalize cutL A none (some lo) = O1 at sl1 lr
  generalize cutL A (some lo) (some hi) = O2 at sl2 lr
  have lr : run Fs (k + 10) 29 [.d (eW w), .d (.list (O1.map eP)), .d (.list (O2.map eP)), .d (ePs Mo)] [] = _ := lr
  generalize O1.map eP = Z1 at sl1 lr
  generalize O2.map eP = Z2 at sl2 lr
  have sl1 : sliceO (ePs A) none (some lo) = _ := sl1
  have sl2 : sliceO (ePs A) (some lo) (some hi) = _ := sl2
  have hat : ∀ c : Option Cell, (S ++ [c])[S.length]? = some c := fun c => by simp
  have hset : ∀ c c' : Option Cell, (S ++ [c]).set S.length c' = S ++ [c'] := fun c c' => by simp
  have ep : PyData.list (ps.map eP) = ePs ps := rfl
  have ea : PyData.list (A.map eP) = ePs A := rfl
  have em : PyData.list (Mo.map eP) = ePs Mo := rfl
  obtain ⟨Ot, hO⟩ : ∃ Z, Z = minus ps w.vs := ⟨_, rfl⟩
  rw [← hO] at e7 c0
  have eo : PyData.list (Ot.map eP) = ePs Ot := rfl
  have s1 : exec (run Fs (k + 10)) (stm 0 b1_law) [some (.scr ns), some (.d (.int kk)), v2, v3, v4, v5, v6, v7, v8, v9, none] S =
      .ok (.nx, [some (.scr ns), some (.d (.int kk)), some (.ref S.length), v3, v4, v5, v6, v7, v8, v9, none]) (S ++ [some (.lst x0)]) := by
    simp [stm, b1_law, lim, startE, execs, exec, ev, evT, evs, evI, M.bind, M.pure, M.lift, val, datum, settle, toDM, toDwM, toD, toDw, cellAt, Vl.asD, cmpO, eqO_int, eqO_str, eqO_b2, ltO, leO, isNone, truthO, bindT, bindTs, wipeE, wipes, asBools, isaO, setM, leave, exitO, callM, callIn, cellsAt, putBack, outBack, alloc, mthM, preM, toDsM, allD, cont, partO, isAbs, optI, itemsO, noExc, atom, smallI, idx_eW0, idx_eW1, idx_eW2, idx_eL0, idx_eL1, idx_eL2, idx_eL3, idx_eR3, idx_eRow, idx_cons0, cut_eR, bindO.eq_1, bind_eP, bind_eW, len_list, len_ePs, bi_add, bi_sub, e0]
  have s2 : exec (run Fs (k + 10)) (stm 1 b1_law) [some (.scr ns), some (.d (.int kk)), some (.ref S.length), v3, v4, v5, v6, v7, v8, v9, none] (S ++ [some (.lst x0)]) =
      .ok (.nx, [some (.scr ns), some (.d (.int kk)), some (.ref S.length), some (.d (ePs ps)), v4, v5, v6, v7, v8, v9, none]) (S ++ [some (.lst x1)]) := by
    simp [stm, b1_law, lim, startE, execs, exec, ev, evT, evs, evI, M.bind, M.pure, M.lift, val, datum, settle, toDM, toDwM, toD, toDw, cellAt, Vl.asD, cmpO, eqO_int, eqO_str, eqO_b2, ltO, leO, isNone, truthO, bindT, bindTs, wipeE, wipes, asBools, isaO, setM, leave, exitO, callM, callIn, cellsAt, putBack, outBack, alloc, mthM, preM, toDsM, allD, cont, partO, isAbs, optI, itemsO, noExc, atom, smallI, idx_eW0, idx_eW1, idx_eW2, idx_eL0, idx_eL1, idx_eL2, idx_eL3, idx_eR3, idx_eRow, idx_cons0, cut_eR, bindO.eq_1, bind_eP, bind_eW, len_list, len_ePs, bi_add, bi_sub, hat, hset, e1, ep]
  have s3 : exec (run Fs (k + 10)) (stm 2 b1_law) [some (.scr ns), some (.d (.int kk)), some (.ref S.length), some (.d (ePs ps)), v4, v5, v6, v7, v8, v9, none] (S ++ [some (.lst x1)]) =
      .ok (.nx, [some (.scr ns), some (.d (.int kk)), some (.ref S.length), some (.d (ePs ps)), some (.d (eW w)), v5, v6, v7, v8, v9, none]) (S ++ [some (.lst x2)]) := by
    simp [stm, b1_law, lim, startE, execs, exec, ev, evT, evs, evI, M.bind, M.pure, M.lift, val, datum, settle, toDM, toDwM, toD, toDw, cellAt, Vl.asD, cmpO, eqO_int, eqO_str, eqO_b2, ltO, leO, isNone, truthO, bindT, bindTs, wipeE, wipes, asBools, isaO, setM, leave, exitO, callM, callIn, cellsAt, putBack, outBack, alloc, mthM, preM, toDsM, allD, cont, partO, isAbs, optI, itemsO, noExc, atom, smallI, idx_eW0, idx_eW1, idx_eW2, idx_eL0, idx_eL1, idx_eL2, idx_eL3, idx_eR3, idx_eRow, idx_cons0, cut_eR, bindO.eq_1, bind_eP, bind_eW, len_list, len_ePs, bi_add, bi_sub, hat, hset, e2]
  have s4 : exec (run Fs (k + 10)) (stm 3 b1_law) [some (.scr ns), some (.d (.int kk)), some (.ref S.length), some (.d (ePs ps)), some (.d (eW w)), v5, v6, v7, v8, v9, none] (S ++ [some (.lst x2)]) =
      .ok (.nx, [some (.scr ns), some (.d (.int kk)), some (.ref S.length), some (.d (ePs ps)), some (.d (eW w)), some (.d (ePs A)), v6, v7, v8, v9, none]) (S ++ [some (.lst x3)]) := by
    simp [stm, b1_law, lim, startE, execs, exec, ev, evT, evs, evI, M.bind, M.pure, M.lift, val, datum, settle, toDM, toDwM, toD, toDw, cellAt, Vl.asD, cmpO, eqO_int, eqO_str, eqO_b2, ltO, leO, isNone, truthO, bindT, bindTs, wipeE, wipes, asBools, isaO, setM, leave, exitO, callM, callIn, cellsAt, putBack, outBack, alloc, mthM, preM, toDsM, allD, cont, partO, isAbs, optI, itemsO, noExc, atom, smallI, idx_eW0, idx_eW1, idx_eW2, idx_eL0, idx_eL1, idx_eL2, idx_eL3, idx_eR3, idx_eRow, idx_cons0, cut_eR, bindO.eq_1, bind_eP, bind_eW, len_list, len_ePs, bi_add, bi_sub, hat, hset, e3, ea]
  have s5 : exec (run Fs (k + 10)) (stm 4 b1_law) [some (.scr ns), some (.d (.int kk)), some (.ref S.length), some (.d (ePs ps)), some (.d (eW w)), some (.d (ePs A)), v6, v7, v8, v9, none] (S ++ [some (.lst x3)]) =
      .ok (.nx, [some (.scr ns), some (.d (.int kk)), some (.ref S.length), some (.d (ePs ps)), some (.d (eW w)), some (.d (ePs A)), some (.d (.int a)), some (.d (.int b)), v8, v9, none]) (S ++ [some (.lst x5)]) := by
    simp [stm, b1_law, lim, startE, execs, exec, ev, evT, evs, evI, M.bind, M.pure, M.lift, val, datum, settle, toDM, toDwM, toD, toDw, cellAt, Vl.asD, cmpO, eqO_int, eqO_str, eqO_b2, ltO, leO, isNone, truthO, bindT, bindTs, wipeE, wipes, asBools, isaO, setM, leave, exitO, callM, callIn, cellsAt, putBack, outBack, alloc, mthM, preM, toDsM, allD, cont, partO, isAbs, optI, itemsO, noExc, atom, smallI, idx_eW0, idx_eW1, idx_eW2, idx_eL0, idx_eL1, idx_eL2, idx_eL3, idx_eR3, idx_eRow, idx_cons0, cut_eR, bindO.eq_1, bind_eP, bind_eW, len_list, len_ePs, bi_add, bi_sub, hat, hset, e4, e5]
  have s6 : exec (run Fs (k + 10)) (stm 5 b1_law) [some (.scr ns), some (.d (.int kk)), some (.ref S.length), some (.d (ePs ps)), some (.d (eW w)), some (.d (ePs A)), some (.d (.int a)), some (.d (.int b)), v8, v9, none] (S ++ [some (.lst x5)]) =
      .ok (.nx, [some (.scr ns), some (.d (.int kk)), some (.ref S.length), some (.d (ePs ps)), some (.d (eW w)), some (.d (ePs A)), some (.d (.int a)), some (.d (.int b)), some (.d (ePs Ot)), v9, none]) (S ++ [some (.lst x5)]) := by
    simp [stm, b1_law, lim, startE, execs, exec, ev, evT, evs, evI, M.bind, M.pure, M.lift, val, datum, settle, toDM, toDwM, toD, toDw, cellAt, Vl.asD, cmpO, eqO_int, eqO_str, eqO_b2, ltO, leO, isNone, truthO, bindT, bindTs, wipeE, wipes, asBools, isaO, setM, leave, exitO, callM, callIn, cellsAt, putBack, outBack, alloc, mthM, preM, toDsM, allD, cont, partO, isAbs, optI, itemsO, noExc, atom, smallI, idx_eW0, idx_eW1, idx_eW2, idx_eL0, idx_eL1, idx_eL2, idx_eL3, idx_eR3, idx_eRow, idx_cons0, cut_eR, bindO.eq_1, bind_eP, bind_eW, len_list, len_ePs, bi_add, bi_sub, c0, eo]
  have s7 : exec (run Fs (k + 10)) (stm 6 b1_law) [some (.scr ns), some (.d (.int kk)), some (.ref S.length), some (.d (ePs ps)), some (.d (eW w)), some (.d (ePs A)), some (.d (.int a)), some (.d (.int b)), some (.d (ePs Ot)), v9, none] (S ++ [some (.lst x5)]) =
      .ok (.nx, [some (.scr ns), some (.d (.int kk)), some (.ref S.length), some (.d (ePs ps)), some (.d (eW w)), some (.d (ePs A)), some (.d (.int a)), some (.d (.int b)), some (.d (ePs Ot)), some (.d (ePs Mo)), none]) (S ++ [some (.lst x7)]) := by
    simp [stm, b1_law, lim, startE, execs, exec, ev, evT, evs, evI, M.bind, M.pure, M.lift, val, datum, settle, toDM, toDwM, toD, toDw, cellAt, Vl.asD, cmpO, eqO_int, eqO_str, eqO_b2, ltO, leO, isNone, truthO, bindT, bindTs, wipeE, wipes, asBools, isaO, setM, leave, exitO, callM, callIn, cellsAt, putBack, outBack, alloc, mthM, preM, toDsM, allD, cont, partO, isAbs, optI, itemsO, noExc, atom, smallI, idx_eW0, idx_eW1, idx_eW2, idx_eL0, idx_eL1, idx_eL2, idx_eL3, idx_eR3, idx_eRow, idx_cons0, cut_eR, bindO.eq_1, bind_eP, bind_eW, len_list, len_ePs, bi_add, bi_sub, hat, hset, e6, e7, em]
  have s8 : exec (run Fs (k + 10)) (stm 7 b1_law) [some (.scr ns), some (.d (.int kk)), some (.ref S.length), some (.d (ePs ps)), some (.d (eW w)), some (.d (ePs A)), some (.d (.int a)), some (.d (.int b)), some (.d (ePs Ot)), some (.d (ePs Mo)), none] (S ++ [some (.lst x7)]) =
      .ok (.nx, [some (.scr ns), some (.d (.int kk)), some (.ref S.length), some (.d (ePs ps)), some (.d (eW w)), some (.d (ePs A)), some (.d (.int a)), some (.d (.int b)), some (.d (ePs Ot)), some (.d (ePs Mo)), none]) (S ++ [some (.lst x7)]) := by
    simp [stm, b1_law, lim, startE, execs, exec, ev, evT, evs, evI, M.bind, M.pure, M.lift, val, datum, settle, toDM, toDwM, toD, toDw, cellAt, Vl.asD, cmpO, eqO_int, eqO_str, eqO_b2, ltO, leO, isNone, truthO, bindT, bindTs, wipeE, wipes, asBools, isaO, setM, leave, exitO, callM, callIn, cellsAt, putBack, outBack, alloc, mthM, preM, toDsM, allD, cont, partO, isAbs, optI, itemsO, noExc, atom, smallI, idx_eW0, idx_eW1, idx_eW2, idx_eL0, idx_eL1, idx_eL2, idx_eL3, idx_eR3, idx_eRow, idx_cons0, cut_eR, bindO.eq_1, bind_eP, bind_eW, len_list, len_ePs, bi_add, bi_sub, bmn, bmx, sl1, sl2, lr]
  exact ⟨_, _, _, _, _, _, _, _, _, (ex_cons s1).trans ((ex_cons s2).trans ((ex_cons s3).trans ((ex_cons s4).trans ((ex_cons s5).trans ((ex_cons s6).trans ((ex_cons s7).trans ((ex_cons s8).trans rfl)))))))⟩
theorem law_loop (k : Nat) (ns : List Int) (hn : ns.length ≤ 63) : ∃ E' S', exec (run Fs (k + 10)) l2_law [some (.scr ns), none, none, none, none, none, none, none, none, none, none] [] = .ok (.nx, E') S' := by
  have hm : ∃ m : Int, 1 ≤ m ∧ m ≤ 10 ∧ (if (if (ns.length : Int) < 10 then (ns.length : Int) else 10) > 1 then (if (ns.length : Int) < 10 then (ns.length : Int) else 10) else 1) = m := ⟨_, by split <;> omega, by split <;> split <;> omega, rfl⟩
  obtain ⟨m, m0, m1, hm⟩ := hm
  obtain ⟨items, hi⟩ := rng_some (lo := 0) (hi := m) (by omega) (by omega) (by omega) (by omega)
  have hlen := rng_len hi
  obtain ⟨E', S', e3, _⟩ := loopL_inv (bnd := fun x E => bindT (.nm 1) x E) (b := fun E => execs (run Fs (k + 10)) b1_law E)
    (fun j E S' => ∃ v1 v2 v3 v4 v5 v6 v7 v8 v9, E = [some (.scr ns), v1, v2, v3, v4, v5, v6, v7, v8, v9, none]) items 0 [some (.scr ns), none, none, none, none, none, none, none, none, none, none] []
    ⟨_, _, _, _, _, _, _, _, _, rfl⟩ fun j E S' x _ hx ⟨v1, v2, v3, v4, v5, v6, v7, v8, v9, hE⟩ => by
      subst hE
      have hj : j < items.length := by
        have := (List.getElem?_eq_some_iff.mp hx).1; omega
      rw [hlen] at hj
      have hxj := rng_at hi (by simpa using hx)
      subst hxj
      obtain ⟨u2, u3, u4, u5, u6, u7, u8, u9, S2, e⟩ := law_step k ns (0 + (j : Int)) (by omega) (by omega) v2 v3 v4 v5 v6 v7 v8 v9 S'
      exact ⟨_, _, S2, rfl, e, .inl rfl, _, _, _, _, _, _, _, _, _, rfl⟩
  refine ⟨E', S', exec_loop (xs := items) (S1 := []) ?_ e3⟩
  refine evI_rng (i := m) ?_ hi
  rw [← hm]
  simp [lim, startE, execs, exec, ev, evT, evs, evI, M.bind, M.pure, M.lift, val, datum, settle, toDM, toDwM, toD, toDw, cellAt, Vl.asD, cmpO, eqO_int, eqO_str, eqO_b2, ltO, leO, isNone, truthO, bindT, bindTs, wipeE, wipes, bltO, asBools, isaO, setM, leave, exitO, callM, callIn, cellsAt, putBack, outBack, alloc, mthM, preM, toDsM, allD, cont, partO, isAbs, optI, itemsO, noExc, atom, smallI, idx_eW0, idx_eW1, idx_eW2, idx_eL0, idx_eL1, idx_eL2, idx_eL3, idx_eR3, idx_eRow, idx_cons0, cut_eR, bindO.eq_1, bind_eP, bind_eW, len_list, len_ePs, bi_add, bi_sub, bi_mulpow, bi_pow7]
theorem law_run (ns : List Int) (h : ns.length ≤ 63) : run (rows.map (·.fn)) 30 30 [.scr ns] [] = .ok (.val (.d (.bool true))) [] := by
  rw [Fs_eq]
  obtain ⟨E', S', e⟩ := law_loop 19 ns h
  have all : execs (run Fs 29) f_law.body (startE f_law [.scr ns]) [] = .ok (.rt (.val (.d (.bool true))), E') S' := (ex_cons e).trans rfl
  rw [run_at (fn := f_law) rfl rfl, all]
  rfl
end Lf

set_option Elab.async false
set_option linter.all false
open PySem PySem.W PyProof.Rows
set_option maxRecDepth 100000 in
set_option maxHeartbeats 0 in
theorem PySem.Challenge.cw_leanfar_k21_whole_taken_back_and_vouched_holds : PySem.Challenge.rw_leanfar_k21_whole_taken_back_and_vouched.Holds := by
  w_on; o_law; k_head; (case hw => w_witness2)
  k_fill
  refine Lf.walkG (l := PySem.Challenge.rw_leanfar_k21_whole_taken_back_and_vouched) (n := 63) (k := 30) (i := 30) (Γ := Lf.tab) (rows := Lf.rows) rfl (by decide) rfl ⟨rfl, by decide, by decide⟩ (fun w h Y => PySem.W.kIn_of Y) rfl Lf.rows_ok rfl ?F (fun ns h _ => Lf.law_run ns h)
  case F =>
    intro w
    refine' ⟨(.cons (Lf.defAtD (r := Lf.r_is_count) Lf.b_is_count Lf.d_is_count ?a0 ?l0 ?c0 ?k0 ?t0 ?n0 rfl rfl ?r0) (.cons (Lf.defAt (r := Lf.r_is_name) Lf.b_is_name ?a1 ?l1 ?c1 ?k1 rfl) (.cons (Lf.defAt (r := Lf.r_is_tuple_of) Lf.b_is_tuple_of ?a2 ?l2 ?c2 ?k2 rfl) (.cons (Lf.defAt (r := Lf.r_is_place) Lf.b_is_place ?a3 ?l3 ?c3 ?k3 rfl) (.cons (Lf.defAt (r := Lf.r_are_places) Lf.b_are_places ?a4 ?l4 ?c4 ?k4 rfl) (.cons (Lf.defAt (r := Lf.r_are_premises) Lf.b_are_premises ?a5 ?l5 ?c5 ?k5 rfl) (.cons (Lf.defAt (r := Lf.r_is_rule) Lf.b_is_rule ?a6 ?l6 ?c6 ?k6 rfl) (.cons (Lf.defAt (r := Lf.r_is_road) Lf.b_is_road ?a7 ?l7 ?c7 ?k7 rfl) (.cons (Lf.defAt (r := Lf.r_is_world) Lf.b_is_world ?a8 ?l8 ?c8 ?k8 rfl) (.cons (Lf.defAt (r := Lf.r_need_world) Lf.b_need_world ?a9 ?l9 ?c9 ?k9 rfl) (.cons (Lf.defAt (r := Lf.r_is_near) Lf.b_is_near ?a10 ?l10 ?c10 ?k10 rfl) (.cons (Lf.defAt (r := Lf.r_living) Lf.b_living ?a11 ?l11 ?c11 ?k11 rfl) (.cons (Lf.defAt (r := Lf.r_height_by) Lf.b_height_by ?a12 ?l12 ?c12 ?k12 rfl) (.cons (Lf.defAt (r := Lf.r_least_of) Lf.b_least_of ?a13 ?l13 ?c13 ?k13 rfl) (.cons (Lf.defAt (r := Lf.r_least) Lf.b_least ?a14 ?l14 ?c14 ?k14 rfl) (.cons (Lf.defAt (r := Lf.r_more_of) Lf.b_more_of ?a15 ?l15 ?c15 ?k15 rfl) (.cons (Lf.defAt (r := Lf.r_falls) Lf.b_falls ?a16 ?l16 ?c16 ?k16 rfl) (.cons (Lf.defAt (r := Lf.r_gains) Lf.b_gains ?a17 ?l17 ?c17 ?k17 rfl) (.cons (Lf.defAt (r := Lf.r__law_pot) Lf.b__law_pot ?a18 ?l18 ?c18 ?k18 rfl) (.cons (Lf.defAt (r := Lf.r__law_take) Lf.b__law_take ?a19 ?l19 ?c19 ?k19 rfl) (.cons (Lf.defAt (r := Lf.r__law_names) Lf.b__law_names ?a20 ?l20 ?c20 ?k20 rfl) (.cons (Lf.defAt (r := Lf.r__law_places) Lf.b__law_places ?a21 ?l21 ?c21 ?k21 rfl) (.cons (Lf.defAt (r := Lf.r__law_some) Lf.b__law_some ?a22 ?l22 ?c22 ?k22 rfl) (.cons (Lf.defAt (r := Lf.r__law_cost) Lf.b__law_cost ?a23 ?l23 ?c23 ?k23 rfl) (.cons (Lf.defAt (r := Lf.r__law_round) Lf.b__law_round ?a24 ?l24 ?c24 ?k24 rfl) (.cons (Lf.defAt (r := Lf.r__law_roads) Lf.b__law_roads ?a25 ?l25 ?c25 ?k25 rfl) (.cons (Lf.defAt (r := Lf.r__law_few) Lf.b__law_few ?a26 ?l26 ?c26 ?k26 rfl) (.cons (Lf.defAt (r := Lf.r__law_without) Lf.b__law_without ?a27 ?l27 ?c27 ?k27 rfl) (.cons (Lf.defAt (r := Lf.r__law_with) Lf.b__law_with ?a28 ?l28 ?c28 ?k28 rfl) (.cons (Lf.defAt (r := Lf.r__law_right) Lf.b__law_right ?a29 ?l29 ?c29 ?k29 rfl) (.cons (Lf.defAt (r := Lf.r_law) Lf.b_law ?a30 ?l30 ?c30 ?k30 rfl) .nil))))))))))))))))))))))))))))))), (.cons (Lf.cst_int ?v0) (.cons (Lf.cst_str ?v1) (.cons (Lf.cst_int ?v2) .nil))), (.cons (Lf.noneAt ?z0) (.cons (Lf.noneAt ?z1) (.cons (Lf.noneAt ?z2) (.cons (Lf.noneAt ?z3) (.cons (Lf.noneAt ?z4) (.cons (Lf.noneAt ?z5) (.cons (Lf.noneAt ?z6) (.cons (Lf.noneAt ?z7) (.cons (Lf.noneAt ?z8) (.cons (Lf.noneAt ?z9) (.cons (Lf.noneAt ?z10) (.cons (Lf.noneAt ?z11) (.cons (Lf.noneAt ?z12) (.cons (Lf.noneAt ?z13) .nil)))))))))))))), .nil⟩
    (case a0 => k_is); (case l0 => k_is); (case c0 => k_is); (case k0 => k_is)
    (case t0 => k_is); (case n0 => rfl); (case r0 => exact (.cons ⟨_, rfl⟩ .nil))
    (case a1 => k_is); (case l1 => k_is); (case c1 => k_is); (case k1 => k_is)
    (case a2 => k_is); (case l2 => k_is); (case c2 => k_is); (case k2 => k_is)
    (case a3 => k_is); (case l3 => k_is); (case c3 => k_is); (case k3 => k_is)
    (case a4 => k_is); (case l4 => k_is); (case c4 => k_is); (case k4 => k_is)
    (case a5 => k_is); (case l5 => k_is); (case c5 => k_is); (case k5 => k_is)
    (case a6 => k_is); (case l6 => k_is); (case c6 => k_is); (case k6 => k_is)
    (case a7 => k_is); (case l7 => k_is); (case c7 => k_is); (case k7 => k_is)
    (case a8 => k_is); (case l8 => k_is); (case c8 => k_is); (case k8 => k_is)
    (case a9 => k_is); (case l9 => k_is); (case c9 => k_is); (case k9 => k_is)
    (case a10 => k_is); (case l10 => k_is); (case c10 => k_is); (case k10 => k_is)
    (case a11 => k_is); (case l11 => k_is); (case c11 => k_is); (case k11 => k_is)
    (case a12 => k_is); (case l12 => k_is); (case c12 => k_is); (case k12 => k_is)
    (case a13 => k_is); (case l13 => k_is); (case c13 => k_is); (case k13 => k_is)
    (case a14 => k_is); (case l14 => k_is); (case c14 => k_is); (case k14 => k_is)
    (case a15 => k_is); (case l15 => k_is); (case c15 => k_is); (case k15 => k_is)
    (case a16 => k_is); (case l16 => k_is); (case c16 => k_is); (case k16 => k_is)
    (case a17 => k_is); (case l17 => k_is); (case c17 => k_is); (case k17 => k_is)
    (case a18 => k_is); (case l18 => k_is); (case c18 => k_is); (case k18 => k_is)
    (case a19 => k_is); (case l19 => k_is); (case c19 => k_is); (case k19 => k_is)
    (case a20 => k_is); (case l20 => k_is); (case c20 => k_is); (case k20 => k_is)
    (case a21 => k_is); (case l21 => k_is); (case c21 => k_is); (case k21 => k_is)
    (case a22 => k_is); (case l22 => k_is); (case c22 => k_is); (case k22 => k_is)
    (case a23 => k_is); (case l23 => k_is); (case c23 => k_is); (case k23 => k_is)
    (case a24 => k_is); (case l24 => k_is); (case c24 => k_is); (case k24 => k_is)
    (case a25 => k_is); (case l25 => k_is); (case c25 => k_is); (case k25 => k_is)
    (case a26 => k_is); (case l26 => k_is); (case c26 => k_is); (case k26 => k_is)
    (case a27 => k_is); (case l27 => k_is); (case c27 => k_is); (case k27 => k_is)
    (case a28 => k_is); (case l28 => k_is); (case c28 => k_is); (case k28 => k_is)
    (case a29 => k_is); (case l29 => k_is); (case c29 => k_is); (case k29 => k_is)
    (case a30 => k_is); (case l30 => k_is); (case c30 => k_is); (case k30 => k_is)
    (case v0 => k_is)
    (case v1 => k_is)
    (case v2 => k_is)
    (case z0 => k_is)
    (case z1 => k_is)
    (case z2 => k_is)
    (case z3 => k_is)
    (case z4 => k_is)
    (case z5 => k_is)
    (case z6 => k_is)
    (case z7 => k_is)
    (case z8 => k_is)
    (case z9 => k_is)
    (case z10 => k_is)
    (case z11 => k_is)
    (case z12 => k_is)
    (case z13 => k_is)

