import PyProof.Rows.All
import HandS.ForMost
import HandS.More
import HandS.TupAny
import HandS.TupMul
import HandS.Deep
import HandS.Flow
import HandS.SortInts
import HandS.Zip
import KE.DataMinMax
import PyProof.StrBlock2
import HandS.Style
import HandS.SetFor
import HandS.IsInst
import HandS.RaiseMore
import HandS.Small
import HandS.TupLe
import HandS.TupSets
import HandS.ExcInit
import HandS.ExcField
import HandS.TryOnly
import HandS.HotCalls
import HandS.ExcIs
import HandS.WordsExc
import HandS.Strs
import KE.DatumOrd
import HandS.Iter
import KE.GoesEnum
import HandS.Zip0
import KE.KRevSl
import HandS.Conv
import KE.KExcIs
import PyProof.StrLawsRepr
import PySem.Challenge.RW_oddjoins_k66_oneway_rows_walked
set_option Elab.async false
set_option linter.all false
set_option maxRecDepth 100000
noncomputable section
/-! Mini: a small language, its values and its evaluator. -/
namespace Mn
open PySem L2

inductive MV where
  | non | bl (b : Bool) | int (i : Int) | str (s : Str) | tup (xs : List MV) | ref (a : Nat)
  deriving Inhabited
mutual
def MV.eqb : MV → MV → Bool
  | .non, .non => true
  | .bl a, .bl b => a == b
  | .int a, .int b => a == b
  | .str a, .str b => decide (a = b)
  | .tup a, .tup b => MV.eqbs a b
  | .ref a, .ref b => a == b
  | _, _ => false
def MV.eqbs : List MV → List MV → Bool
  | [], [] => true
  | x :: xs, y :: ys => MV.eqb x y && MV.eqbs xs ys
  | _, _ => false
end
mutual
theorem MV.eqb_iff : ∀ a b : MV, MV.eqb a b = true ↔ a = b
  | .non, b => by cases b <;> simp [MV.eqb]
  | .bl a, b => by cases b <;> simp [MV.eqb]
  | .int a, b => by cases b <;> simp [MV.eqb]
  | .str a, b => by cases b <;> simp [MV.eqb]
  | .ref a, b => by cases b <;> simp [MV.eqb]
  | .tup a, b => by cases b <;> simp [MV.eqb, MV.eqbs_iff a]
theorem MV.eqbs_iff : ∀ a b : List MV, MV.eqbs a b = true ↔ a = b
  | [], b => by cases b <;> simp [MV.eqbs]
  | x :: xs, b => by cases b <;> simp [MV.eqbs, MV.eqb_iff x, MV.eqbs_iff xs]
end
instance : DecidableEq MV := fun a b => decidable_of_iff _ (MV.eqb_iff a b)
/-- what lies in the small heap: a list, a list that is only read, a dict -/
inductive MO where
  | lst (xs : List MV) | fro (xs : List MV) | dct (kvs : List (Key × MV))
  deriving DecidableEq
abbrev MH := List MO
inductive R (α : Type) where
  | ok (a : α) (h : MH) | exc (c : Str) (fs : List MV) (h : MH) | bad
def R.bind {α β : Type} : R α → (α → MH → R β) → R β
  | .ok a h, f => f a h
  | .exc c fs h, _ => .exc c fs h
  | .bad, _ => .bad
def R.map {α β : Type} (r : R α) (f : α → β) : R β := r.bind fun a h => .ok (f a) h
abbrev MS' := List (Option MV)

inductive IK where
  | val | rng1 | rng2 | enum | zip | items
  deriving DecidableEq
inductive MT where
  | nm (i : Nat) | tp (ts : List MT)
inductive Bi where
  | len | sum | sorted | tuple | list | int | str | repr | all | any | min | max | abs
  deriving DecidableEq
inductive Me where
  | append | extend | pop | insert | count | index | reverse | get | items | join | split | remove | clear | copy
  deriving DecidableEq
inductive Ty where
  | int | bool | str | tuple | list | dict
  deriving DecidableEq
inductive ME where
  | c (v : MV) | var (i : Nat) | glb (x : Str)
  | tup (es : List ME) | lst (es : List ME)
  | bin (op : Operator) (a b : ME) | neg (a : ME) | not_ (a : ME)
  | cmp (op : CmpOp) (a b : ME) | chain (o1 o2 : CmpOp) (a b c : ME)
  | and_ (a b : ME) | or_ (a b : ME) | ife (t a b : ME)
  | ix (a b : ME) | sl (a : ME) | slL (a lo : ME) | slH (a hi : ME) | slB (a lo hi : ME) | rev (a : ME)
  | call (f : Str) (es : List ME) | blt (b : Bi) (es : List ME) | meth (m : Me) (o : ME) (es : List ME)
  | isi (a : ME) (t : Ty)
  | dsp (es : List ME) | rngL (a b : ME) | rngT (a b : ME)
  | lc (elt : ME) (tg : MT) (ik : IK) (a b : ME) (ifs : List ME) (own : List Nat)
  | srtS (a : ME) | lenS (a : ME)
  | callN (f : Str) (es : List ME) | isX (k : Nat) (cs : List Str) | fldX (k : Nat) (x : Str) | callE (f : Str) (k : Nat)
/-- what becomes of what a call in a try tells: x = f(..), f(..), x = f(..) is True, if f(..) is True: x = True -/
inductive Wr where
  | val | drop | isT | ifT
  deriving DecidableEq
inductive MS where
  | asg (tg : MT) (e : ME) | asgSub (o i e : ME) | expr (e : ME) | ret (e : ME) | retN
  | ite (t : ME) (a b : List MS) | for_ (tg : MT) (ik : IK) (a b : ME) (body : List MS) | whl (t : ME) (body : List MS)
  | pass | brk | cont
  | retC (e : ME) | raise (c : Str) (es : List ME) | asgX (tg : MT) (f : Str) (es : List ME) | exprX (f : Str) (es : List ME) | retX (f : Str) (es : List ME)
  | tryC (w : Wr) (tg : MT) (f : Str) (es : List ME) (c : Str) (k : Option Nat) (hd : List MS)

def lineM : Nat := 1000000

/-! ### values -/
mutual
/-- the tree of a value; what a reference stands for is told by f -/
def dV (f : Nat → Option PyData) : MV → Option PyData
  | .non => some .none
  | .bl b => some (.bool b)
  | .int i => some (.int i)
  | .str s => some (.str s)
  | .tup xs => (dVs f xs).map .tuple
  | .ref a => f a
def dVs (f : Nat → Option PyData) : List MV → Option (List PyData)
  | [] => some []
  | x :: xs => match dV f x, dVs f xs with
    | some d, some ds => some (d :: ds)
    | _, _ => none
end
def snapR (h : MH) : Nat → Nat → Option PyData
  | 0, _ => none
  | n + 1, a => match h[a]? with
    | some (.lst xs) => (dVs (snapR h n) xs).map .list
    | some (.fro xs) => (dVs (snapR h n) xs).map .list
    | _ => none
def snap (h : MH) (v : MV) : Option PyData := dV (snapR h 6) v
def shp (d : PyData) : Bool := SeqAt.shaped d

mutual
def noRef : MV → Bool
  | .tup xs => noRefs xs
  | .ref _ => false
  | .non => true | .bl _ => true | .int _ => true | .str _ => true
def noRefs : List MV → Bool
  | [] => true
  | x :: xs => noRef x && noRefs xs
end
mutual
def bel (n : Nat) : MV → Bool
  | .tup xs => bels n xs
  | .ref a => decide (a < n)
  | .non => true | .bl _ => true | .int _ => true | .str _ => true
def bels (n : Nat) : List MV → Bool
  | [] => true
  | x :: xs => bel n x && bels n xs
end
def MO.bel (n : Nat) : MO → Bool
  | .lst xs => bels n xs
  | .fro xs => bels n xs
  | .dct kvs => kvs.all fun p => Mn.bel n p.2

/-- a list that may be read -/
def lsts (h : MH) (a : Nat) : Option (List MV) := match h[a]? with
  | some (.lst xs) => some xs
  | some (.fro xs) => some xs
  | _ => none
/-- the items of a list or a tuple -/
def seqs (h : MH) : MV → Option (List MV)
  | .tup xs => some xs
  | .ref a => lsts h a
  | _ => none
def truth (h : MH) : MV → Option Bool
  | .non => some false
  | .bl b => some b
  | .int i => some (i != 0)
  | .str s => if s.length ≤ lineM then some (s.length != 0) else none
  | .tup xs => some (!xs.isEmpty)
  | .ref a => match h[a]? with
    | some (.lst xs) => some (!xs.isEmpty)
    | some (.fro xs) => some (!xs.isEmpty)
    | some (.dct kvs) => some (!kvs.isEmpty)
    | none => none
def newO (o : MO) (h : MH) : R MV := .ok (.ref h.length) (h ++ [o])
def allInts : List MV → Option (List Int)
  | [] => some []
  | .int i :: xs => (allInts xs).map (i :: ·)
  | _ :: _ => none
def allBls : List MV → Option (List Bool)
  | [] => some []
  | .bl i :: xs => (allBls xs).map (i :: ·)
  | _ :: _ => none
def intKeys {α : Type} : List (Key × α) → Option (List Int)
  | [] => some []
  | (.inl i, _) :: r => (intKeys r).map (i :: ·)
  | _ :: _ => none
def flatM : MV → Bool
  | .tup _ => false
  | .ref _ => false
  | _ => true
def eqF (x y : MV) : Bool := match snap [] x, snap [] y with
  | some d, some e => PyData.eqv d e
  | _, _ => false
def keyOf : MV → Option Key
  | .int i => some (.inl i)
  | .str s => some (.inr s)
  | _ => none
def getK (k : Key) (kvs : List (Key × MV)) : Option MV := (kvs.find? fun kv => decide (kv.1 = k)).map (·.2)
def putK (k : Key) (v : MV) (kvs : List (Key × MV)) : List (Key × MV) :=
  if (kvs.any fun kv => decide (kv.1 = k)) = true then kvs.map (fun kv => if kv.1 = k then (kv.1, v) else kv) else kvs ++ [(k, v)]

def mul01 (z : Str) (k : Int) : Str := if k = 1 then z else Str.empty
section
local instance (priority := 10000) clP (p : Prop) : Decidable p := Classical.propDecidable p
def binM (op : Operator) (x y : MV) (h : MH) : R MV :=
  match op, x, y with
  | .Add, .int i, .int j => .ok (.int (i + j)) h
  | .Add, .str a, .str b => if a.length + b.length ≤ lineM then .ok (.str (a ++ b)) h else .bad
  | .Add, .tup a, .tup b => if a.length + b.length ≤ lineM then .ok (.tup (a ++ b)) h else .bad
  | .Add, .ref a, .ref b => match h[a]?, h[b]? with
    | some (.lst xs), some (.lst ys) => if xs.length + ys.length ≤ lineM then newO (.lst (xs ++ ys)) h else .bad
    | _, _ => .bad
  | .Sub, .int i, .int j => .ok (.int (i - j)) h
  | .Mult, .int i, .int j => if i.natAbs < 2 ^ 64 ∨ j.natAbs < 2 ^ 64 then .ok (.int (i * j)) h else .bad
  | .Mult, .ref a, .int k => match h[a]? with
    | some (.lst xs) => if -(2 ^ 63) ≤ k ∧ k < 2 ^ 63 ∧ xs.length * k.toNat ≤ lineM then newO (.lst (List.replicate k.toNat xs).flatten) h else .bad
    | _ => .bad
  | .Mult, .tup xs, .int k => if 2 ≤ k ∧ k ≤ 1000 ∧ xs.length ≤ 1000 ∧ xs ≠ [] then .ok (.tup (List.replicate k.toNat xs).flatten) h else if k = 1 then .ok (.tup xs) h else .bad
  | .FloorDiv, .int i, .int j => if 0 < j ∧ j < 1073741824 then .ok (.int (i / j)) h else .bad
  | .Mod, .int i, .int j => if 0 < j then .ok (.int (i % j)) h else .bad
  | .Pow, .int i, .int j => if 0 ≤ j ∧ j ≤ 1000000 ∧ i.natAbs < 2 ^ 64 then .ok (.int (i ^ j.toNat)) h else .bad
  | .LShift, .int i, .int j => if 0 ≤ j ∧ j ≤ 1000000 ∧ i.natAbs < 2 ^ 64 then .ok (.int (i * 2 ^ j.toNat)) h else .bad
  | .RShift, .int i, .int j => if 0 ≤ j then .ok (.int (i / 2 ^ j.toNat)) h else .bad
  | .BitAnd, .int i, .int j => .ok (.int (Builtin.bitAnd i j)) h
  | .BitOr, .int i, .int j => .ok (.int (Builtin.bitOr i j)) h
  | .BitXor, .int i, .int j => .ok (.int (Builtin.bitXor i j)) h
  | .Add, .bl i, .int j => .ok (.int (cond i 1 0 + j)) h
  | .Sub, .bl i, .int j => .ok (.int (cond i 1 0 - j)) h
  | .Mult, .str z, .int k => if k = 0 ∨ k = 1 then .ok (.str (mul01 z k)) h else .bad
  | _, _, _ => .bad
end

def eqD (h : MH) (x y : MV) : Option Bool := match snap h x, snap h y with
  | some d, some e => if shp d && shp e then some (PyData.eqv d e) else none
  | _, _ => none
def strOf : MV → Option Str
  | .str s => some s
  | _ => none
def eqM (h : MH) (x y : MV) : Option Bool := match strOf x, strOf y with
  | some a, some b => some (decide (a = b))
  | _, _ => eqD h x y
/-- x in y -/
def inM (h : MH) (x y : MV) : Option Bool := match y with
  | .tup ys => if flatM x && ys.all flatM then some (ys.any fun z => eqF z x) else none
  | .ref a => match h[a]? with
    | some (.dct kvs) => (keyOf x).map fun k => (getK k kvs).isSome
    | _ => match lsts h a with
      | some ys => if flatM x && ys.all flatM then some (ys.any fun z => eqF z x) else
        match snap h x, dVs (snapR h 5) ys with
        | some d, some ds => if shp d && shp (.list ds) then some (ds.any fun z => PyData.eqv z d) else none
        | _, _ => none
      | none => none
  | .str z => match x with
    | .str w => some (!(Builtin.Str.occurrences z w 0 z.length 1).isEmpty)
    | _ => none
  | _ => none
def cmpM (op : CmpOp) (x y : MV) (h : MH) : Option Bool :=
  match op with
  | .Eq => eqM h x y
  | .NotEq => (eqM h x y).map (!·)
  | .Lt => match x, y with
    | .int i, .int j => some (decide (i < j))
    | _, _ => none
  | .LtE => match x, y with
    | .int i, .int j => some (decide (i ≤ j))
    | _, _ => none
  | .Gt => match x, y with
    | .int i, .int j => some (decide (j < i))
    | _, _ => none
  | .GtE => match x, y with
    | .int i, .int j => some (decide (j ≤ i))
    | _, _ => none
  | .In => inM h x y
  | .NotIn => (inM h x y).map (!·)
  | .Is => match y with
    | .non => some (decide (x = .non))
    | .bl b => match x with
      | .bl a => some (decide (a = b))
      | _ => none
    | _ => none
  | .IsNot => match y with
    | .non => some (!decide (x = .non))
    | .bl b => match x with
      | .bl a => some (!decide (a = b))
      | _ => none
    | _ => none
def ofB (o : Option Bool) (h : MH) : R MV := match o with
  | some b => .ok (.bl b) h
  | none => .bad
def ofO {α : Type} (o : Option α) (h : MH) : R α := match o with
  | some b => .ok b h
  | none => .bad

/-! ### refusals: a def that may raise tells a marked tuple where it does -/
def bang : Str := "!raised!"
def encX (c : Str) (fs : List MV) : MV := .tup (.str bang :: .str c :: fs)
def decX : MV → Option (Str × List MV)
  | .tup (.str m :: .str c :: fs) => if m = bang then (if fs.all flatM then some (c, fs) else none) else none
  | _ => none
/-- the classes of the program's refusals: their fields, what they are instances of -/
def clsTab (c : Str) : Option (List Str × List Str) :=
  if c = "NoPaper" then some (["word", "number"], ["NoPaper", "JoinError", "ValueError"]) else
  if c = "NoWalk" then some (["number"], ["NoWalk", "JoinError", "ValueError"]) else
  if c = "NoText" then some (["row", "word"], ["NoText", "JoinError", "ValueError"]) else
  if c = "NoTurns" then some (["place"], ["NoTurns", "JoinError", "ValueError"]) else
  if c = "NoTie" then some (["number"], ["NoTie", "JoinError", "ValueError"]) else
  if c = "TooMany" then some (["word"], ["TooMany", "JoinError", "ValueError"]) else
  if c = "NoLine" then some (["line"], ["NoLine", "JoinError", "ValueError"]) else none
def wrapM : Wr → MV → Option (Option MV)
  | .val, v => some (some v)
  | .drop, _ => some none
  | .isT, .bl b => some (some (.bl b))
  | .ifT, .bl true => some (some (.bl true))
  | .ifT, .bl false => some none
  | _, _ => none
/-! ### subscripts, slices -/
def ixM (x y : MV) (h : MH) : R MV := match x, y with
  | .tup xs, .int i => ofO (atI xs i) h
  | .ref a, y => match h[a]? with
    | some (.dct kvs) => match keyOf y with
      | some k => ofO (getK k kvs) h
      | none => .bad
    | _ => match lsts h a, y with
      | some xs, .int i => ofO (atI xs i) h
      | _, _ => .bad
  | .str z, .int i => if z.length ≤ lineM then ofO ((atI z.cps.toList i).map fun c => .str ⟨#[c]⟩) h else .bad
  | _, _ => .bad
def cutM (xs : List MV) (lo hi : Option Int) : List MV := (xs.drop (HT.sIx xs.length 0 lo)).take (HT.sIx xs.length xs.length hi - HT.sIx xs.length 0 lo)
def slM (x : MV) (lo hi : Option Int) (h : MH) : R MV := match x with
  | .tup xs => .ok (.tup (cutM xs lo hi)) h
  | .ref a => match lsts h a with
    | some xs => newO (.lst (cutM xs lo hi)) h
    | none => .bad
  | .str z => if z.length ≤ lineM then .ok (.str (cutS z lo hi)) h else .bad
  | _ => .bad
def revM (x : MV) (h : MH) : R MV := match x with
  | .tup xs => .ok (.tup xs.reverse) h
  | .ref a => match lsts h a with
    | some xs => newO (.lst xs.reverse) h
    | none => .bad
  | _ => .bad
def setM (o i v : MV) (h : MH) : Option MH := match o, i with
  | .ref a, i => match h[a]? with
    | some (.lst xs) => match i with
      | .int i => (ixN xs.length i).bind fun j => if j < xs.length then some (h.set a (.lst (xs.set j v))) else none
      | _ => none
    | some (.dct kvs) => (keyOf i).bind fun k => if kvs.length < lineM then some (h.set a (.dct (putK k v kvs))) else none
    | _ => none
  | _, _ => none
def isiM (x : MV) (t : Ty) (h : MH) : Option Bool := match x, t with
  | .non, _ => some false
  | .bl _, .int => some true
  | .bl _, .bool => some true
  | .bl _, _ => some false
  | .int _, t => some (decide (t = .int))
  | .str _, t => some (decide (t = .str))
  | .tup _, t => some (decide (t = .tuple))
  | .ref a, t => match h[a]? with
    | some (.lst _) => some (decide (t = .list))
    | some (.dct _) => some (decide (t = .dict))
    | _ => none

/-! ### sets of ints -/
def srtI (ns : List Int) : List Int := (ns.eraseDups).mergeSort fun x y => decide (x ≤ y)
def srtM (x : MV) (h : MH) : R MV := match x with
  | .tup xs => match allInts xs with
    | some ns => if ns.length ≤ 1000 ∧ ns.eraseDups.length < 64 then newO (.lst ((srtI ns).map .int)) h else .bad
    | none => .bad
  | _ => .bad
def lenM (x : MV) (h : MH) : R MV := match (seqs h x).bind allInts with
  | some ns => if ns.length ≤ 1000 then .ok (.int ns.eraseDups.length) h else .bad
  | none => .bad
/-! ### built-in functions, methods -/
def reprD (d : PyData) : Option Str := if d.showable = true ∧ d.hasDict = false ∧ d.depth ≤ 60 ∧ d.shown.length ≤ lineM then some d.shown else none
/-- alike and none is None: they can be ordered -/
def ordB (ds : List PyData) : Bool := ds.all fun x => (match x with
  | .none => false
  | _ => true) && ds.all fun y => PySem.W.alike x y
/-- where the first of the least stands -/
def minIx (ds : List PyData) : Nat := argBest (fun i j => PySem.W.dataLt (ds.getD i .none) (ds.getD j .none)) (ds.length - 1)
def ordOk (ds : List PyData) : Bool := !ds.isEmpty && ordB ds && decide (PyData.depthAll ds ≤ 60)
def minM (h : MH) (xs : List MV) : R MV := match dVs (snapR h 5) xs with
  | some ds => if ordOk ds = true then (match xs[minIx ds]? with
    | some x => .ok x h
    | none => .bad) else .bad
  | none => .bad
def bltM (b : Bi) (vs : List MV) (h : MH) : R MV := match b, vs with
  | .len, [.str z] => if z.length ≤ lineM then .ok (.int z.length) h else .bad
  | .len, [.tup xs] => .ok (.int xs.length) h
  | .len, [.ref a] => match h[a]? with
    | some (.lst xs) => .ok (.int xs.length) h
    | some (.fro xs) => .ok (.int xs.length) h
    | some (.dct kvs) => .ok (.int kvs.length) h
    | none => .bad
  | .sum, [.ref a] => match (lsts h a).bind allInts with
    | some ns => .ok (.int ns.sum) h
    | none => .bad
  | .all, [.ref a] => match (lsts h a).bind allBls with
    | some ns => .ok (.bl (ns.all id)) h
    | none => .bad
  | .any, [.ref a] => match (lsts h a).bind allBls with
    | some ns => .ok (.bl (ns.any id)) h
    | none => .bad
  | .tuple, [.tup xs] => .ok (.tup xs) h
  | .tuple, [.ref a] => match lsts h a with
    | some xs => .ok (.tup xs) h
    | none => .bad
  | .list, [v] => match seqs h v with
    | some xs => newO (.lst xs) h
    | none => .bad
  | .int, [.int i] => .ok (.int i) h
  | .int, [.bl k] => .ok (.int (if k then 1 else 0)) h
  | .str, [.int i] => if i.natAbs.log2 < 1920 then .ok (.str (toString i)) h else .bad
  | .str, [.str s] => .ok (.str s) h
  | .str, [.bl k] => .ok (.str (if k = true then "True" else "False")) h
  | .repr, [v] => match (snap h v).bind reprD with
    | some s => .ok (.str s) h
    | none => .bad
  | .abs, [.int i] => .ok (.int (if i < 0 then -i else i)) h
  | .max, [.int i, .int j] => .ok (.int (if j > i then j else i)) h
  | .min, [.int i, .int j] => .ok (.int (if j < i then j else i)) h
  | .max, [v] => match (seqs h v).bind allInts with
    | some (n :: ns) => .ok (.int (PySem.W.maxOf n ns)) h
    | _ => .bad
  | .min, [v] => match (seqs h v).bind allInts with
    | some (n :: ns) => .ok (.int (PySem.W.minOf n ns)) h
    | _ => match seqs h v with
      | some xs => minM h xs
      | none => .bad
  | .sorted, [.tup xs] => match allInts xs with
    | some ns => newO (.lst ((ns.mergeSort fun x y => decide (x ≤ y)).map .int)) h
    | none => .bad
  | .sorted, [.ref a] => match h[a]? with
    | some (.dct kvs) => match intKeys kvs with
      | some ns => if ns.length < 64 then newO (.lst ((ns.mergeSort fun x y => decide (x ≤ y)).map .int)) h else .bad
      | none => .bad
    | _ => match (lsts h a).bind allInts with
      | some ns => newO (.lst ((ns.mergeSort fun x y => decide (x ≤ y)).map .int)) h
      | none => .bad
  | _, _ => .bad
inductive Kd where
  | list | dict | str | tuple
  deriving DecidableEq
def kdM (h : MH) : MV → Option Kd
  | .str _ => some .str
  | .tup _ => some .tuple
  | .ref a => match h[a]? with
    | some (.lst _) => some .list
    | some (.fro _) => some .list
    | some (.dct _) => some .dict
    | none => none
  | _ => none
/-- how often, where first, an int is there -/
def idxI (ns : List Int) (k : Int) : Option Nat := ns.findIdx? fun z => decide (z = k)
def cntI (m : Me) (ns : List Int) (k : Int) : Option Int := match m with
  | .count => some (ns.count k : Nat)
  | .index => match idxI ns k with
    | some j => some (j : Nat)
    | none => none
  | _ => none
section
local instance (priority := 10000) clP2 (p : Prop) : Decidable p := Classical.propDecidable p
def methM (m : Me) (kd : Kd) (o : MV) (vs : List MV) (h : MH) : R MV := match o with
  | .ref a => match h[a]?, kd with
    | some (.lst xs), .list => match m, vs with
      | .append, [y] => if xs.length < lineM then .ok .non (h.set a (.lst (xs ++ [y]))) else .bad
      | .extend, [.ref b] => match h[b]? with
        | some (.lst ys) => if xs.length + ys.length ≤ lineM then .ok .non (h.set a (.lst (xs ++ ys))) else .bad
        | _ => .bad
      | .extend, [.tup ys] => if xs.length + ys.length ≤ lineM then .ok .non (h.set a (.lst (xs ++ ys))) else .bad
      | .pop, [] => match xs[xs.length - 1]? with
        | some y => .ok y (h.set a (.lst xs.dropLast))
        | none => .bad
      | .pop, [.int i] => match (if 0 ≤ i ∧ i < 2 ^ 62 then xs[i.toNat]? else none) with
        | some y => .ok y (h.set a (.lst (xs.eraseIdx i.toNat)))
        | none => .bad
      | .insert, [.int i, y] => if xs.length < lineM ∧ 0 ≤ i ∧ i < 2 ^ 62 then .ok .non (h.set a (.lst (xs.take i.toNat ++ [y] ++ xs.drop i.toNat))) else .bad
      | .reverse, [] => .ok .non (h.set a (.lst xs.reverse))
      | .clear, [] => .ok .non (h.set a (.lst []))
      | .count, [.int k] => ofO (((allInts xs).bind fun ns => cntI .count ns k).map .int) h
      | .index, [.int k] => ofO (((allInts xs).bind fun ns => cntI .index ns k).map .int) h
      | .remove, [.int k] => match ((allInts xs).bind fun ns => idxI ns k) with
        | some j => .ok .non (h.set a (.lst (xs.eraseIdx j)))
        | none => .bad
      | _, _ => .bad
    | some (.dct kvs), .dict => match m, vs with
      | .get, [k] => match keyOf k with
        | some k => .ok ((getK k kvs).getD .non) h
        | none => .bad
      | .get, [k, d] => match keyOf k with
        | some k => .ok ((getK k kvs).getD d) h
        | none => .bad
      | _, _ => .bad
    | _, _ => .bad
  | _ => .bad

end
/-! ### what a loop walks -/
inductive It where
  | fix (xs : List MV) | live (a : Nat) | enumF (xs : List MV) | enumL (a : Nat) | zipFF (xs ys : List MV) | zipLL (a b : Nat)
def enumI (xs : List MV) : List MV := xs.mapIdx fun i x => .tup [.int i, x]
def zipI (xs ys : List MV) : List MV := xs.zipWith (fun x y => .tup [x, y]) ys
def It.items (it : It) (h : MH) : Option (List MV) := match it with
  | .fix xs => some xs
  | .live a => lsts h a
  | .enumF xs => some (enumI xs)
  | .enumL a => (lsts h a).map enumI
  | .zipFF xs ys => some (zipI xs ys)
  | .zipLL a b => match lsts h a, lsts h b with
    | some xs, some ys => some (zipI xs ys)
    | _, _ => none
def rngI (lo : Int) (n : Nat) : List MV := (List.range n).map fun k => .int (lo + (k : Nat))
def pairUp : List MV → Option (List (Key × MV))
  | [] => some []
  | x :: y :: r => match keyOf x, pairUp r with
    | some k, some ps => some ((k, y) :: ps)
    | _, _ => none
  | _ => none
section
local instance (priority := 10000) clP3 (p : Prop) : Decidable p := Classical.propDecidable p
def rngM (x y : MV) : Option (List MV) := match x, y with
  | .int i, .int j => if -(2 ^ 62) ≤ i ∧ i < 2 ^ 62 ∧ -(2 ^ 62) ≤ j ∧ j < 2 ^ 62 ∧ (j - i).toNat ≤ lineM then some (rngI i (j - i).toNat) else none
  | _, _ => none
def itM (k : IK) (x y : MV) (h : MH) : Option It := match k, x, y with
  | .val, .tup xs, _ => some (.fix xs)
  | .val, .ref a, _ => (lsts h a).map fun _ => .live a
  | .rng1, .int j, _ => if -(2 ^ 62) ≤ j ∧ j < 2 ^ 62 then some (.fix (rngI 0 j.toNat)) else none
  | .rng2, .int i, .int j => if (-(2 ^ 62) ≤ i ∧ i < 2 ^ 62) ∧ (-(2 ^ 62) ≤ j ∧ j < 2 ^ 62) then some (.fix (rngI i (j - i).toNat)) else none
  | .enum, .tup xs, _ => some (.enumF xs)
  | .enum, .ref a, _ => (lsts h a).map fun _ => .enumL a
  | .zip, .tup xs, .tup ys => some (.zipFF xs ys)
  | .zip, .ref a, .ref b => match lsts h a, lsts h b with
    | some _, some _ => some (.zipLL a b)
    | _, _ => none
  | _, _, _ => none
end
mutual
def asgT : MT → MV → MS' → Option MS'
  | .nm i, v, σ => some (σ.set i (some v))
  | .tp ts, .tup xs, σ => if xs.length = ts.length then asgTs ts xs σ else none
  | .tp _, _, _ => none
def asgTs : List MT → List MV → MS' → Option MS'
  | [], _, σ => some σ
  | t :: ts, x :: xs, σ => (asgT t x σ).bind fun σ => asgTs ts xs σ
  | _ :: _, [], _ => none
end
def wipeM (σ : MS') : List Nat → MS'
  | [] => σ
  | v :: vs => (wipeM σ vs).set v none
mutual
def MT.slots : MT → List Nat
  | .nm i => [i]
  | .tp ts => MT.slotss ts
def MT.slotss : List MT → List Nat
  | [] => []
  | t :: ts => MT.slots t ++ MT.slotss ts
end
/-- the turn's item: n turns are left, i are behind -/
def turnI (it : It) (h : MH) (i n : Nat) : Option MV := (it.items h).bind fun xs => if xs.length = i + n then xs[i]? else none
def doneI (it : It) (h : MH) (i : Nat) : Bool := match it.items h with
  | some xs => xs.length == i
  | none => false
def compGo (it : It) (step : MV → MH → R (Option MV)) : Nat → Nat → List MV → MH → R (List MV)
  | 0, i, acc, h => if doneI it h i then .ok acc h else .bad
  | n + 1, i, acc, h => match turnI it h i (n + 1) with
    | some v => (step v h).bind fun
      | none, h => compGo it step n (i + 1) acc h
      | some y, h => if acc.length < lineM then compGo it step n (i + 1) (acc ++ [y]) h else .bad
    | none => .bad
def lcStep (a : Option MS') (ts : MS' → MH → R Bool) (el : MS' → MH → R MV) (h : MH) : R (Option MV) := match a with
  | some σ => (ts σ h).bind fun
    | true, h => (el σ h).bind fun y h => .ok (some y) h
    | false, h => .ok none h
  | none => .bad
inductive Fl where
  | nx (σ : MS') | ret (v : MV) | brk (σ : MS') | cont (σ : MS')
def forGo (it : It) (step : MV → MS' → MH → R Fl) : Nat → Nat → MS' → MH → R Fl
  | 0, i, σ, h => if doneI it h i then .ok (.nx σ) h else .bad
  | n + 1, i, σ, h => match turnI it h i (n + 1) with
    | some v => (step v σ h).bind fun
      | .nx σ, h => forGo it step n (i + 1) σ h
      | .cont σ, h => forGo it step n (i + 1) σ h
      | .brk σ, h => .ok (.nx σ) h
      | .ret v, h => .ok (.ret v) h
    | none => .bad
def forStep (a : Option MS') (b : MS' → MH → R Fl) (h : MH) : R Fl := match a with
  | some σ => b σ h
  | none => .bad
def whlGo (test : MS' → MH → R MV) (step : MS' → MH → R Fl) : Nat → MS' → MH → R Fl
  | 0, _, _ => .bad
  | n + 1, σ, h => (test σ h).bind fun v h => match truth h v with
    | some true => (step σ h).bind fun
      | .nx σ, h => whlGo test step n σ h
      | .cont σ, h => whlGo test step n σ h
      | .brk σ, h => .ok (.nx σ) h
      | .ret v, h => .ok (.ret v) h
    | some false => .ok (.nx σ) h
    | none => .bad

structure Cm where
  call : Str → List MV → MH → R MV
  gl : Str → Option MV
  fuel : Nat
  ex : Option (Str × List MV × Nat) := none
  callE : Str → Str → List MV → MH → R MV := fun _ _ _ _ => .bad
/-- the refusal at hand, held by the name of slot k -/
def Cm.at (X : Cm) (k : Nat) : Option (Str × List MV) := match X.ex with
  | some (c, fs, k') => if k = k' then some (c, fs) else none
  | none => none
def isXM (c : Str) (cs : List Str) : Option Bool := (clsTab c).map fun t => cs.any fun x => t.2.contains x
def fldXM (c : Str) (fs : List MV) (x : Str) : Option MV := (clsTab c).bind fun t => if t.1.length = fs.length then (t.1.zip fs).lookup x else none

mutual
def evE (X : Cm) : ME → MS' → MH → R MV
  | .c v, _, h => .ok v h
  | .var i, σ, h => match σ[i]? with
    | some (some v) => .ok v h
    | _ => .bad
  | .glb x, _, h => ofO (X.gl x) h
  | .tup es, σ, h => (evEs X es σ h).bind fun vs h => .ok (.tup vs) h
  | .lst es, σ, h => (evEs X es σ h).bind fun vs h => newO (.lst vs) h
  | .bin op a b, σ, h => (evE X a σ h).bind fun x h => (evE X b σ h).bind fun y h => binM op x y h
  | .neg a, σ, h => (evE X a σ h).bind fun
    | .int i, h => .ok (.int (-i)) h
    | _, _ => .bad
  | .not_ a, σ, h => (evE X a σ h).bind fun x h => match truth h x with
    | some b => .ok (.bl (!b)) h
    | none => .bad
  | .cmp op a b, σ, h => (evE X a σ h).bind fun x h => (evE X b σ h).bind fun y h => ofB (cmpM op x y h) h
  | .chain o1 o2 a b c, σ, h => (evE X a σ h).bind fun x h => (evE X b σ h).bind fun y h => match cmpM o1 x y h with
    | some true => (evE X c σ h).bind fun z h => ofB (cmpM o2 y z h) h
    | some false => .ok (.bl false) h
    | none => .bad
  | .and_ a b, σ, h => (evE X a σ h).bind fun x h => match truth h x with
    | some true => evE X b σ h
    | some false => .ok x h
    | none => .bad
  | .or_ a b, σ, h => (evE X a σ h).bind fun x h => match truth h x with
    | some true => .ok x h
    | some false => evE X b σ h
    | none => .bad
  | .ife t a b, σ, h => (evE X t σ h).bind fun x h => match truth h x with
    | some true => evE X a σ h
    | some false => evE X b σ h
    | none => .bad
  | .ix a b, σ, h => (evE X a σ h).bind fun x h => (evE X b σ h).bind fun y h => ixM x y h
  | .sl a, σ, h => (evE X a σ h).bind fun x h => slM x none none h
  | .slL a lo, σ, h => (evE X a σ h).bind fun x h => (evE X lo σ h).bind fun
    | .int i, h => slM x (some i) none h
    | _, _ => .bad
  | .slH a hi, σ, h => (evE X a σ h).bind fun x h => (evE X hi σ h).bind fun
    | .int i, h => slM x none (some i) h
    | _, _ => .bad
  | .slB a lo hi, σ, h => (evE X a σ h).bind fun x h => (evE X lo σ h).bind fun
    | .int i, h => (evE X hi σ h).bind fun
      | .int j, h => slM x (some i) (some j) h
      | _, _ => .bad
    | _, _ => .bad
  | .rev a, σ, h => (evE X a σ h).bind fun x h => revM x h
  | .call f es, σ, h => (evEs X es σ h).bind fun vs h => X.call f vs h
  | .blt b es, σ, h => (evEs X es σ h).bind fun vs h => bltM b vs h
  | .meth m o es, σ, h => (evE X o σ h).bind fun x h => match kdM h x with
    | some kd => (evEs X es σ h).bind fun vs h => methM m kd x vs h
    | none => .bad
  | .isi a t, σ, h => (evE X a σ h).bind fun x h => ofB (isiM x t h) h
  | .dsp es, σ, h => (evEs X es σ h).bind fun vs h => match pairUp vs with
    | some ps => newO (.dct (ps.foldl (fun acc kv => putK kv.1 kv.2 acc) [])) h
    | none => .bad
  | .rngL a b, σ, h => (evE X a σ h).bind fun x h => (evE X b σ h).bind fun y h => match rngM x y with
    | some xs => newO (.lst xs) h
    | none => .bad
  | .rngT a b, σ, h => (evE X a σ h).bind fun x h => (evE X b σ h).bind fun y h => match rngM x y with
    | some xs => .ok (.tup xs) h
    | none => .bad
  | .lc elt tg ik a b ifs own, σ, h => (evE X a σ h).bind fun x h => (evE X b σ h).bind fun y h => match itM ik x y h with
    | some it => match it.items h with
      | some xs => (compGo it (fun v h => lcStep (asgT tg v (wipeM σ own)) (fun σ h => evTs X ifs σ h) (fun σ h => evE X elt σ h) h) xs.length 0 [] h).bind fun vs h => newO (.lst vs) h
      | none => .bad
    | none => .bad
  | .srtS a, σ, h => (evE X a σ h).bind fun x h => srtM x h
  | .lenS a, σ, h => (evE X a σ h).bind fun x h => lenM x h
  | .callN f es, σ, h => (evEs X es σ h).bind fun vs h => (X.call f vs h).bind fun v h => match decX v with
    | none => .ok v h
    | some _ => .bad
  | .isX k cs, σ, h => match X.at k with
    | some (c, _) => ofB (isXM c cs) h
    | none => .bad
  | .fldX k x, σ, h => match X.at k with
    | some (c, fs) => ofO (fldXM c fs x) h
    | none => .bad
  | .callE f k, σ, h => match X.at k with
    | some (c, fs) => X.callE f c fs h
    | none => .bad
def evEs (X : Cm) : List ME → MS' → MH → R (List MV)
  | [], _, h => .ok [] h
  | e :: es, σ, h => (evE X e σ h).bind fun v h => (evEs X es σ h).bind fun vs h => .ok (v :: vs) h
def evTs (X : Cm) : List ME → MS' → MH → R Bool
  | [], _, h => .ok true h
  | e :: es, σ, h => (evE X e σ h).bind fun v h => match truth h v with
    | some true => evTs X es σ h
    | some false => .ok false h
    | none => .bad
end
def raisable (c : Str) (vs : List MV) : Bool := vs.all flatM && (match clsTab c with
  | some t => t.1.length == vs.length
  | none => false)
def wipeK (k : Option Nat) (σ : MS') : MS' := match k with
  | some k => σ.set k none
  | none => σ
def okK (k : Option Nat) (σ : MS') : Bool := match k with
  | some k => decide (k < σ.length)
  | none => true
def Fl.wipe (k : Option Nat) : Fl → Fl
  | .nx σ => .nx (wipeK k σ)
  | .ret v => .ret v
  | .brk σ => .brk (wipeK k σ)
  | .cont σ => .cont (wipeK k σ)
/-- within an except suite -/
def Cm.with (X : Cm) (k : Option Nat) (c : Str) (fs : List MV) : Cm := { X with ex := k.map fun k => (c, fs, k) }
mutual
def evS (X : Cm) : MS → MS' → MH → R Fl
  | .asg tg e, σ, h => (evE X e σ h).bind fun v h => ofO ((asgT tg v σ).map .nx) h
  | .asgSub o i e, σ, h => (evE X e σ h).bind fun v h => (evE X o σ h).bind fun x h => (evE X i σ h).bind fun y h => match setM x y v h with
    | some h => .ok (.nx σ) h
    | none => .bad
  | .expr e, σ, h => (evE X e σ h).bind fun _ h => .ok (.nx σ) h
  | .ret e, σ, h => (evE X e σ h).bind fun v h => .ok (.ret v) h
  | .retN, σ, h => .ok (.ret .non) h
  | .ite t a b, σ, h => (evE X t σ h).bind fun v h => match truth h v with
    | some true => evSs X a σ h
    | some false => evSs X b σ h
    | none => .bad
  | .for_ tg ik a b body, σ, h => (evE X a σ h).bind fun x h => (evE X b σ h).bind fun y h => match itM ik x y h with
    | some it => match it.items h with
      | some xs => forGo it (fun v σ h => forStep (asgT tg v σ) (fun σ h => evSs X body σ h) h) xs.length 0 σ h
      | none => .bad
    | none => .bad
  | .whl t body, σ, h => whlGo (fun σ h => evE X t σ h) (fun σ h => evSs X body σ h) X.fuel σ h
  | .pass, σ, h => .ok (.nx σ) h
  | .brk, σ, h => .ok (.brk σ) h
  | .cont, σ, h => .ok (.cont σ) h
  | .retC e, σ, h => (evE X e σ h).bind fun v h => match decX v with
    | none => .ok (.ret v) h
    | some _ => .bad
  | .raise c es, σ, h => (evEs X es σ h).bind fun vs h => if raisable c vs then .ok (.ret (encX c vs)) h else .bad
  | .asgX tg f es, σ, h => (evE X (.call f es) σ h).bind fun v h => match decX v with
    | some _ => .ok (.ret v) h
    | none => ofO ((asgT tg v σ).map .nx) h
  | .exprX f es, σ, h => (evE X (.call f es) σ h).bind fun v h => match decX v with
    | some _ => .ok (.ret v) h
    | none => .ok (.nx σ) h
  | .retX f es, σ, h => (evE X (.call f es) σ h).bind fun v h => .ok (.ret v) h
  | .tryC w tg f es c k hd, σ, h => (evE X (.call f es) σ h).bind fun v h => match decX v with
    | some (c', fs) => if isXM c' [c] = some true ∧ okK k σ = true then (evSs (X.with k c' fs) hd (wipeK k σ) h).bind fun fl h => .ok (fl.wipe k) h else .bad
    | none => match wrapM w v with
      | some (some v') => ofO ((asgT tg v' σ).map .nx) h
      | some none => .ok (.nx σ) h
      | none => .bad
def evSs (X : Cm) : List MS → MS' → MH → R Fl
  | [], σ, h => .ok (.nx σ) h
  | s :: ss, σ, h => (evS X s σ h).bind fun
    | .nx σ, h => evSs X ss σ h
    | f, h => .ok f h
end

/-! ### functions -/
structure FD where
  np : Nat
  nl : Nat
  body : List MS
/-- a return keeps all that lies in the small heap -/
def trimM (h0 : MH) (v : MV) (h : MH) : R MV := .ok v h
def finM (h0 : MH) (r : R Fl) : R MV := match r with
  | .ok (.ret v) h => trimM h0 v h
  | .ok (.nx _) h => trimM h0 .non h
  | .exc c fs h => .exc c fs h
  | _ => .bad
/-- a def whose one parameter is the refusal at hand -/
def runE (Γ : Str → Option FD) (gl : Str → Option MV) (W : Nat) (f c : Str) (fs : List MV) (h : MH) : R MV := match Γ f with
  | some fd => if 1 = fd.np then finM h (evSs { call := fun _ _ _ => .bad, gl := gl, fuel := W, ex := some (c, fs, 0) } fd.body (List.replicate fd.nl none) h) else .bad
  | none => .bad
def runF (Γ : Str → Option FD) (gl : Str → Option MV) (W : Nat) : Nat → Str → List MV → MH → R MV
  | 0, _, _, _ => .bad
  | d + 1, f, vs, h => match Γ f with
    | some fd => if vs.length = fd.np then finM h (evSs { call := runF Γ gl W d, gl := gl, fuel := W, callE := runE Γ gl W } fd.body (vs.map some ++ List.replicate (fd.nl - fd.np) none) h) else .bad
    | none => .bad
end Mn

set_option maxHeartbeats 2000000
/-! Cnt: count and index of tuples and lists of ints. -/
namespace Mn
open PySem PySem.Spec PyProof.Rows L2
theorem idx_at {ns : List Int} {k : Int} {j : Nat} (e : idxI ns k = some j) : ns[j]? = some k ∧ ∀ m : Nat, m < j → ns[m]? ≠ some k := by
  unfold idxI at e
  rw [List.findIdx?_eq_some_iff_getElem] at e
  obtain ⟨h, h1, h2⟩ := e
  refine ⟨by rw [List.getElem?_eq_getElem h]; simpa using h1, fun m hm z => ?_⟩
  have := h2 m hm
  obtain ⟨h3, h4⟩ := List.getElem?_eq_some_iff.mp z
  simp [h4] at this
section
variable {X : Cx}
def rIxT (K : PySem.W.Frag) : V → List V → Hp → VK → Prop := fun x xs H Q => ∃ (p : Addr) (ns : List Int) (k : Int) (j : Nat), x = .ref p ∧ xs = [.int k] ∧ SqT K H p (ns.map V.int) ∧ ns[j]? = some k ∧ (∀ m : Nat, m < j → ns[m]? ≠ some k) ∧ Q (.int (j : Nat)) H
def rCnT (K : PySem.W.Frag) : V → List V → Hp → VK → Prop := fun x xs H Q => ∃ (p : Addr) (ns : List Int) (k : Int), x = .ref p ∧ xs = [.int k] ∧ SqT K H p (ns.map V.int) ∧ Q (.int (ns.count k : Nat)) H
theorem mt_tcnt : MtR X "tuple.count" (rCnT X.K) := fun pins s σ H x xs v us Q I rx rxs h => by
  obtain ⟨p, ns, k, rfl, rfl, hq, q⟩ := h
  cases rx
  obtain ⟨u, rfl, t, rfl⟩ := rxs.one
  obtain ⟨its, rv, ⟨⟨cls, dd, dt, sl⟩, ho, hc, n, hd⟩, hz⟩ := I.tuple hq
  dsimp only at hc hd
  subst hc hd
  have hi := ints_of_vals rv
  refine call_meets PySem.F.slot_tuple_count ⟨_, ho, rfl⟩ PySem.F.entry_tuple_count (PySem.F.args_tuple_count_2 _ _) (PySem.SeqAt.tuple_countAt p its.toArray n dd sl _ (eqk k)) ⟨ho, fun y hy => (eqk_gives hi y (by simpa using hy)).at _ _, ?_⟩
  have ec : its.toArray.toList.countP (eqk k) = ns.count k := eqk_count hi
  rw [ec]
  exact ⟨.int (ns.count k : Nat), H, I.tok _, ⟨_, rfl⟩, q⟩
theorem eqk_at {k : Int} : ∀ {us : List Value} {ns : List Int}, IntsAre us ns → ∀ (j : Nat) (u : Value), us[j]? = some u → ∃ z, ns[j]? = some z ∧ eqk k u = decide (z = k)
  | _, _, .nil, j, u, e => by simp at e
  | _, _, .cons z t h, 0, u, e => by
    simp at e
    subst e
    exact ⟨z, rfl, rfl⟩
  | _, _, .cons z t h, j + 1, u, e => by
    have := eqk_at (k := k) h j u (by simpa using e)
    simpa using this
theorem mt_tix : MtR X "tuple.index" (rIxT X.K) := fun pins s σ H x xs v us Q I rx rxs h => by
  obtain ⟨p, ns, k, j, rfl, rfl, hq, hj, hno, q⟩ := h
  cases rx
  obtain ⟨u, rfl, t, rfl⟩ := rxs.one
  obtain ⟨its, rv, ⟨⟨cls, dd, dt, sl⟩, ho, hc, n, hd⟩, hz⟩ := I.tuple hq
  dsimp only at hc hd
  subst hc hd
  have hi := ints_of_vals rv
  have hlen : ns.length = its.length := by have := hi.length; simpa using this.symm
  have hjl : j < its.toArray.size := by
    have := (List.getElem?_eq_some_iff.mp hj).1
    simp; omega
  have at_ : ∀ (m : Nat) (hm : m < its.toArray.size), ∃ z, ns[m]? = some z ∧ eqk k its.toArray[m] = decide (z = k) := fun m hm => by
    have hm' : m < its.length := by simpa using hm
    obtain ⟨z, h1, h2⟩ := eqk_at (k := k) hi m its[m] (by simp [hm'])
    exact ⟨z, h1, by simpa using h2⟩
  refine call_meets PySem.F.slot_tuple_index ⟨_, ho, rfl⟩ PySem.F.entry_tuple_index (PySem.F.args_tuple_index_2 _ _) (TI.tuple_indexAt p its.toArray n dd sl _ (eqk k) j hjl ?_ ?_) ⟨ho, fun y hy => (eqk_gives hi y (by simpa using hy)).at _ _, .int (j : Nat), H, I.tok _, ⟨_, rfl⟩, q⟩
  · obtain ⟨z, h1, h2⟩ := at_ j hjl
    rw [hj] at h1
    cases h1
    rw [h2]; simp
  · intro m hm hmj
    obtain ⟨z, h1, h2⟩ := at_ m hm
    rw [h2]
    have := hno m hmj
    rw [h1] at this
    simpa using this
end
end Mn

set_option maxHeartbeats 2000000
/-! ExT: a list extended by a tuple. -/
namespace Mn
open PySem PySem.Spec PyProof.Rows L2
theorem list_extend_any (l : Addr) (items : Array Value) (n : Nat) (b : Addr) (items2 : Array Value) (n2 : Nat) (dd : Option Addr) (sl : Array (Option Value)) (hs0 : ¬(!items.isEmpty && Builtin.List.listTooLong (items.size + items2.size)) = true) (hs1 : items.size ≤ sizeLine) (hs2 : items.size + items2.size ≤ sizeLine + 1) :
    Meets (Builtin.«list.extend» ⟨[.ref l, .ref b], []⟩) (fun _ R s => s.heap.get? l = some { cls := .type "list", dict := none, data := .seq items n, slots := #[] } ∧ s.heap.get? b = some { cls := .type "tuple", dict := dd, data := .seq items2 n2, slots := sl } ∧ R (.ok (.ret Value.none)) { s with heap := s.heap.update l (Obj.mapSeq fun x => x ++ items2), toks := s.toks }) :=
  .of_wp fun prog w A R s h => by
    obtain ⟨hp, g, d, tk, os⟩ := s; obtain ⟨hl, hb, h⟩ := h; have f1 := PySem.AutoSeq1.idx_int; have f2 := PySem.AutoSeq1.sub_tuple_tuple; have f3 := PySem.AutoSeq1.sub_list_list; have f4 := PySem.AutoSeq1.sub_tuple_list; have f5 := PySem.AutoSeq1.sub_list_tuple;
    have hz' : (items ++ items2).size ≤ sizeLine + 1 := by rw [Array.size_append]; exact hs2
    wp_walk using (wpAny_updateSeq hl rfl (hz := hs1) (_hz' := hz')), PySem.AutoSeq1.wpAny_loadPart' hl, PySem.AutoSeq1.wpAny_loadPart' hb; exact ⟨_, rfl, h⟩
section
variable {X : Cx}
def rExtT (K : PySem.W.Frag) : V → List V → Hp → VK → Prop := fun x vs H Q => ∃ l b xs zs, x = .ref l ∧ vs = [.ref b] ∧ H l = some (.lst xs) ∧ SqT K H b zs ∧ xs.length + zs.length ≤ sizeLine ∧ Q .non (upd H l (.lst (xs ++ zs)))
theorem mt_extT : MtM X "list.extend" (rExtT X.K) := by
  intro pins s σ H x vs v us Q I rx rv h
  obtain ⟨l, b, xs, zs, rfl, rfl, hH, hq, hz, q⟩ := h
  cases rx
  obtain ⟨u, rfl, ru⟩ := rv.one
  cases ru
  obtain ⟨z, its, n, r, hl, e⟩ := I.lstM hH
  obtain ⟨its2, r2, ⟨⟨cls, dd, dt, sl⟩, ho, hc, n2, hd⟩, hz2⟩ := I.tuple hq
  dsimp only at hc hd
  subst hc hd
  have hl2 := r2.length
  have hsz : its.toArray.size + its2.toArray.size ≤ sizeLine := by rw [List.size_toArray, List.size_toArray]; omega
  have hlong : ¬ (!its.toArray.isEmpty && Builtin.List.listTooLong (its.toArray.size + its2.toArray.size)) = true := by
    rw [notLongL hsz, Bool.and_false]
    exact Bool.false_ne_true
  refine call_meets F.slot_list_extend ⟨_, e, rfl⟩ F.entry_list_extend (F.args_list_extend_2 _ _)
    (list_extend_any l its.toArray n b its2.toArray n2 dd sl hlong (by rw [List.size_toArray]; omega) (by omega)) ⟨e, ho, ?_⟩
  refine ⟨.non, _, I.lset (its' := its ++ its2) hH e (by simp) (r.append r2) ?_, rfl, q⟩
  rw [List.length_append]
  omega
end
end Mn

set_option maxHeartbeats 2000000
/-! SrtT: sorted(t) of a tuple of ints. -/
namespace Mn
open PySem PySem.Spec PyProof.Rows L2
section
variable {prog : Program} {w : World} {A : Around} {E : Value → Shared → Prop} {s : Shared}
theorem collect_tup {l : Addr} {vs : List Value} {o : Obj} {n : Nat} {Q : List Value → Shared → Prop} (ho : s.heap.get? l = some o) (hc : o.cls = .type "tuple") (hd : o.data = .seq vs.toArray n)
    (h : Q vs { s with heap := (s.heap.push (seqObj "list" #[] 0)).update s.heap.objs.size (Obj.mapSeq (· ++ vs.toArray)) }) (hsz : vs.length ≤ sizeLine) :
    wpAny (model prog w) A (collect (.ref l)) Q E s := by
  unfold collect
  refine wpAny_bind (wpAny_runValue (codeAny_builtin entry_proto_collect' ?_))
  show wpAny _ _ (do again (.builtin "list.__iadd__" ⟨[← newList [], .ref l], []⟩)) _ _ s
  refine wpAny_bind (wpAny_newList (wpAny_pure ⟨Code.quiet_builtin _ (by decide +kernel), codeAny_builtin entry_list_iadd' ?_⟩))
  show wpAny _ _ (Builtin.List.listExtendWith (.ref s.heap.objs.size) (.ref l) (.ref s.heap.objs.size)) _ _ { s with heap := s.heap.push (seqObj "list" #[] 0) }
  unfold Builtin.List.listExtendWith
  have ho' : (s.heap.push (seqObj "list" #[] 0)).get? l = some o := Heap.get?_push_of_some _ ho
  refine wpAny_bind (wpAny_typeOf (T := "tuple") ⟨o, ho', hc⟩ ?_)
  have ht : (Value.type "tuple" == Value.type "tuple") = true := by rfl
  rw [if_pos (by rw [ht]; simp)]
  refine wpAny_bind (listItems_at ho' hd ?_)
  refine wpAny_bind (listItems_at (xs := #[]) (n := 0) (Heap.get?_push_size _ rfl) rfl ?_)
  rw [if_neg (by simp)]
  refine wpAny_bind (listUpdate_at (xs := #[]) (n := 0) (Heap.get?_push_size _ rfl) rfl ?_ (Nat.zero_le _) (by show (#[] ++ vs.toArray).size ≤ sizeLine + 1; simp only [Array.size_append, List.size_toArray, List.length_nil]; omega))
  refine wpAny_pure ?_
  show wpAny (model prog w) A (do
      let o ← load s.heap.objs.size
      match o.data with
      | .seq xs _ => pure xs.toList
      | _ => unsupported "internal:collect") Q E { s with heap := (s.heap.push (seqObj "list" #[] 0)).update s.heap.objs.size (Obj.mapSeq (· ++ vs.toArray)) }
  refine wpAny_bind (wpAny_load (get?_update_seq (Heap.get?_push_size _ rfl) _) ?_)
  show wpAny _ _ (pure ((#[] : Array Value) ++ vs.toArray).toList) Q E _
  rw [show ((#[] : Array Value) ++ vs.toArray).toList = vs by simp]
  exact wpAny_pure h
theorem sorted_ordT {l : Addr} {vs : List Value} {o : Obj} {n : Nat} {ltv : Value → Value → Bool} {Q : Value → Shared → Prop} (O : SrtO.Swo ltv) (ho : s.heap.get? l = some o) (hc : o.cls = .type "tuple") (hd : o.data = .seq vs.toArray n) (hz : vs.length ≤ sizeLine)
    (hS : 2 ≤ vs.length → ∀ (h₁ : Heap) (a : Addr), h₁.get? a = some (seqObj "list" vs.toArray 0) → (∀ b o, s.heap.get? b = some o → b ≠ a ∧ h₁.get? b = some o) → SrtO.SortableO prog w A.in1.in1 { s with heap := h₁ } a vs ltv)
    (h : ∀ out : List Value, SrtO.Srtd ltv out → SrtO.Stb ltv out vs → Q (.ref (s.heap.objs.size + 1)) { s with heap := sortedAll s.heap vs out.toArray }) :
    wpAny (model prog w) A (call (.builtin "sorted") [.ref l]) Q E s := by
  refine Calls.call_function_entry kind_sorted plain_sorted entry_sorted (args_sorted1 _) ?_
  unfold Builtin.«sorted»
  refine wpAny_bind (m := checkCount "sorted" 1 1 _) (wpAny_pure ?_)
  refine wpAny_bind (collect_tup ho hc hd ?_ hz)
  refine wpAny_bind (wpAny_newList ?_ hz)
  have hsz : ((s.heap.push (seqObj "list" #[] 0)).update s.heap.objs.size (Obj.mapSeq (· ++ vs.toArray))).objs.size = s.heap.objs.size + 1 := by
    rw [Heap.size_update, size_push']
  have hoL : (((s.heap.push (seqObj "list" #[] 0)).update s.heap.objs.size (Obj.mapSeq (· ++ vs.toArray))).push (seqObj "list" vs.toArray 0)).get? (s.heap.objs.size + 1) = some (seqObj "list" vs.toArray 0) := by
    rw [← hsz]; exact Heap.get?_push_size _ rfl
  have keep : ∀ b o, s.heap.get? b = some o → b ≠ s.heap.objs.size + 1 ∧ (((s.heap.push (seqObj "list" #[] 0)).update s.heap.objs.size (Obj.mapSeq (· ++ vs.toArray))).push (seqObj "list" vs.toArray 0)).get? b = some o := fun b o q => by
    have hlt : b < s.heap.objs.size := Heap.lt_size q
    refine ⟨Nat.ne_of_lt (Nat.lt_succ_of_lt hlt), Heap.get?_push_of_some _ ?_⟩
    rw [Heap.get?_update_ne _ _ _ _ (Nat.ne_of_lt hlt)]
    exact Heap.get?_push_of_some _ q
  show wpAny _ _ _ _ _ { s with heap := ((s.heap.push (seqObj "list" #[] 0)).update s.heap.objs.size (Obj.mapSeq (· ++ vs.toArray))).push (seqObj "list" vs.toArray 0) }
  rw [hsz]
  refine wpAny_bind (wpAny_holding (wpAny_call_entry slot_list_sort ⟨_, hoL, rfl⟩ entry_list_sort (SrtO.list_sort_ord O hoL hz (fun h2 => hS h2 _ _ hoL keep) fun out hs hb => ⟨_, rfl, ?_⟩) (args_list_sort _)))
  exact wpAny_pure ⟨_, rfl, h out hs hb⟩
end
section
variable {X : Cx}
def rSortedTI (K : PySem.W.Frag) : List V → Hp → VK → Prop := fun vs H Q => ∃ (a : Addr) (ns : List Int), vs = [V.ref a] ∧ SqT K H a (ns.map V.int) ∧
  ∀ (ns' : List Int) (p : Addr), ns'.Perm ns → ns'.Pairwise (· ≤ ·) → H p = none → Q (.ref p) (upd H p (.lst (ns'.map V.int)))
theorem cr_sortedTI : CallR X (.builtin "sorted") (rSortedTI X.K) := by
  intro pins s σ H vs us Q I r h
  obtain ⟨a, ns, rfl, hs, q⟩ := h
  obtain ⟨its, rv, ⟨⟨cls, dd, dt, sl⟩, ho, hc, n, hd⟩, hz⟩ := I.tuple hs
  rw [Vals.ref1 r]
  have hi := rv.ints
  refine sorted_ordT SrtO.swo_int ho hc hd (by rw [← rv.length]; exact hz) (fun h2 h₁ a' _ _ => SrtO.ints_sortable hi h2) fun out h1 h2 => ?_
  obtain ⟨k1, k2, k3⟩ := SrtO.ints_out hi h1 h2
  obtain ⟨ep, he'⟩ := PyProof.Rows.sortedAll_at s.heap its out.toArray
  have hlen : ((out.map SrtO.iv).map V.int).length ≤ sizeLine := by
    rw [List.length_map, k2.length_eq]
    rw [List.length_map] at hz
    exact hz
  exact ⟨.ref _, upd H (s.heap.objs.size + 1) (.lst ((out.map SrtO.iv).map V.int)), I.laid (t' := s.toks) (fun _ _ => PyProof.Rows.sortedAll_old) (Nat.le_succ _) ⟨hlen, out, ep, vals_of_ints k1, he'⟩, rfl, q _ _ k2 k3 (I.hok.fresh (Nat.le_succ _))⟩
end
end Mn

set_option maxHeartbeats 2000000
/-! MinT: min of a list or a tuple of alike data. -/
namespace Mn
open PySem PySem.Spec PyProof.Rows L2
theorem ord_alike {ds : List PyData} (h : ordB ds = true) : PySem.W.AlikeAll ds := by
  unfold ordB at h
  rw [List.all_eq_true] at h
  refine ⟨fun x hx y hy => ?_, fun x hx z => ?_⟩
  · have := h x hx
    rw [Bool.and_eq_true, List.all_eq_true] at this
    exact this.2 y hy
  · have := h x hx
    subst z
    simp at this
theorem vals_get {K : Nat} : ∀ {xs : List V} {us : List Value}, Vals xs us → ∀ (i : Nat) (u : Value), us[i]? = some u → ∃ x, xs[i]? = some x ∧ RelV x u
  | _, _, .nil, i, u, e => by simp at e
  | _, _, .cons a t, 0, u, e => by simp at e; subst e; exact ⟨_, rfl, a⟩
  | _, _, .cons a t, i + 1, u, e => by
    obtain ⟨x, h1, h2⟩ := vals_get (K := K) t i u (by simpa using e)
    exact ⟨x, by simpa using h1, h2⟩
section
variable {X : Cx}
def rMinD (K : PySem.W.Frag) : List V → Hp → VK → Prop := fun vs H Q => ∃ (a : Addr) (xs : List V) (ds : List PyData) (x : V), vs = [V.ref a] ∧ (SqL K H a xs ∨ SqT K H a xs) ∧ DpAll K H xs ds ∧ ordOk ds = true ∧ xs[minIx ds]? = some x ∧ Q x H
theorem cr_minD (hc : X.calm = true) (hu : X.A.units + 100 < cLine) : CallR X (.builtin "min") (rMinD X.K) := by
  intro pins s σ H vs us Q I r h
  obtain ⟨a, xs, ds, x, rfl, hs, hd, ho, hx, q⟩ := h
  rw [Vals.ref1 r]
  unfold ordOk at ho
  rw [Bool.and_eq_true, Bool.and_eq_true, decide_eq_true_eq] at ho
  obtain ⟨⟨h0, h1⟩, h2⟩ := ho
  have al := ord_alike h1
  have hu' : X.A.units + 1 + PyData.depthAll ds < cLine := by omega
  have n0 : 0 < ds.length := List.length_pos_iff.mpr fun z => by subst z; simp at h0
  have fin : ∀ (its : List Value) (v : Value) (h' : Heap) (tk : Nat), Vals xs its → its[minIx ds]? = some v → (∀ b o, s.heap.get? b = some o → h'.get? b = some o) → EP X pins σ Q v { s with heap := h', toks := tk } := fun its v h' tk rv hv hk => by
    obtain ⟨y, e, ry⟩ := vals_get (K := 0) rv _ v hv
    rw [hx] at e
    cases e
    exact ⟨x, H, I.kept hk, ry, q⟩
  rcases hs with hs | hs
  · obtain ⟨its, rv, hl, _⟩ := I.list hs
    obtain ⟨as, hr⟩ := Dp.readsAll I ds xs its hd rv
    have hr' : ReadsAll s.heap its.toArray.toList ds as := by rw [List.toList_toArray]; exact hr
    have hn : its.toArray.size = ds.length := PySem.W.readsAll_len hr'
    refine call_min_walkH (PySem.W.iter_listW (A := X.A.in1) (I.ok.hd hc) hl.isList fun s₂ e W st hfp hw hk => ?_)
    refine ⟨_, _, _, _, _, _, _, s.heap, _, rfl, W, st, hfp, by omega, hw, hk, PySem.W.cmpIn_lt (A := X.A.in1) hr' al (by show X.A.units + 1 + _ < _; exact hu'), fun v s' hP m => ?_⟩
    obtain ⟨h', tk, rfl, hk'⟩ := PySem.W.moved_old e rfl m
    refine fin its v h' tk rv ?_ hk'
    rw [hn] at hP
    simpa [minIx] using hP
  · obtain ⟨its, rv, hl, _⟩ := I.tuple hs
    obtain ⟨as, hr⟩ := Dp.readsAll I ds xs its hd rv
    have hr' : ReadsAll s.heap its.toArray.toList ds as := by rw [List.toList_toArray]; exact hr
    have hn : its.toArray.size = ds.length := PySem.W.readsAll_len hr'
    refine call_min_walkH (PySem.W.iter_tupleW (A := X.A.in1) (I.ok.hd hc) hl fun s₂ e W st hfp hw hk => ?_)
    refine ⟨_, _, _, _, _, _, _, s.heap, _, rfl, W, st, hfp, by omega, hw, hk, PySem.W.cmpIn_lt (A := X.A.in1) hr' al (by show X.A.units + 1 + _ < _; exact hu'), fun v s' hP m => ?_⟩
    obtain ⟨h', tk, rfl, hk'⟩ := PySem.W.moved_old e rfl m
    refine fin its v h' tk rv ?_ hk'
    rw [hn] at hP
    simpa [minIx] using hP
end
end Mn

set_option maxHeartbeats 2000000
/-! SetL: sorted(set(t)), len(set(t)) of ints. -/
namespace Mn
open PySem PySem.Spec PyProof.Rows L2
theorem eraseDups_mem' (l : List Int) (k : Int) : k ∈ l.eraseDups ↔ k ∈ l := List.mem_eraseDups
theorem eraseDups_nd : ∀ (n : Nat) (l : List Int), l.length ≤ n → l.eraseDups.Nodup
  | 0, l, h => by
    have : l = [] := List.length_eq_zero_iff.mp (by omega)
    subst this
    simp
  | n + 1, [], _ => by simp
  | n + 1, a :: l, h => by
    rw [List.eraseDups_cons]
    have hl : (l.filter fun b => !b == a).length ≤ n := Nat.le_trans (List.length_filter_le _ _) (by simpa using h)
    refine List.nodup_cons.mpr ⟨fun z => ?_, eraseDups_nd n _ hl⟩
    rw [List.mem_eraseDups, List.mem_filter] at z
    simp at z
theorem eraseDups_le0 : ∀ (n : Nat) (l : List Int), l.length ≤ n → l.eraseDups.length ≤ l.length
  | 0, l, h => by
    have : l = [] := List.length_eq_zero_iff.mp (by omega)
    subst this
    simp
  | n + 1, [], _ => by simp
  | n + 1, a :: l, h => by
    rw [List.eraseDups_cons]
    have hl : (l.filter fun b => !b == a).length ≤ l.length := List.length_filter_le _ _
    have := eraseDups_le0 n (l.filter fun b => !b == a) (by simp at h; omega)
    simp; omega
theorem eraseDups_le (l : List Int) : l.eraseDups.length ≤ l.length := eraseDups_le0 _ l (Nat.le_refl _)
theorem nd_len {l m : List Int} (a : l.Nodup) (b : m.Nodup) (h : ∀ k, k ∈ l ↔ k ∈ m) : l.length = m.length := (List.perm_ext_iff_of_nodup a b |>.mpr h).length_eq
theorem srtI_mem (ns : List Int) (k : Int) : k ∈ srtI ns ↔ k ∈ ns := by
  unfold srtI
  rw [(List.mergeSort_perm _ _).mem_iff, List.mem_eraseDups]
theorem srtI_pw (ns : List Int) : (srtI ns).Pairwise (· < ·) := by
  have h1 := List.pairwise_mergeSort (le := fun x y : Int => decide (x ≤ y)) (fun a b c h1 h2 => by simp at *; omega) (fun a b => by simp; omega) ns.eraseDups
  have h2 : ((ns.eraseDups).mergeSort fun x y => decide (x ≤ y)).Nodup := (List.mergeSort_perm _ _).nodup_iff.mpr (eraseDups_nd _ ns (Nat.le_refl _))
  exact (h1.and h2).imp fun {a b} h => by simp at h; omega
theorem pw_eq : ∀ {l m : List Int}, l.Pairwise (· < ·) → m.Pairwise (· < ·) → (∀ k, k ∈ l ↔ k ∈ m) → l = m
  | [], [], _, _, _ => rfl
  | [], b :: m, _, _, h => absurd ((h b).mpr (by simp)) (by simp)
  | a :: l, [], _, _, h => absurd ((h a).mp (by simp)) (by simp)
  | a :: l, b :: m, h1, h2, h => by
    obtain ⟨p1, p2⟩ := List.pairwise_cons.mp h1
    obtain ⟨q1, q2⟩ := List.pairwise_cons.mp h2
    have hab : a = b := by
      rcases List.mem_cons.mp ((h a).mp (by simp)) with e | e
      · exact e
      · rcases List.mem_cons.mp ((h b).mpr (by simp)) with e2 | e2
        · exact e2.symm
        · have := q1 a e; have := p1 b e2; omega
    subst hab
    rw [pw_eq p2 q2 fun k => ?_]
    have := h k
    simp only [List.mem_cons] at this
    constructor
    · intro hk
      rcases this.mp (.inr hk) with e | e
      · subst e; exact absurd (p1 k hk) (by omega)
      · exact e
    · intro hk
      rcases this.mpr (.inr hk) with e | e
      · subst e; exact absurd (q1 k hk) (by omega)
      · exact e
theorem firstMet_ok (ns : List Int) : ∀ i, i ≤ ns.length → (firstMet (fun i => ns.getD i 0) i).Nodup ∧ ∀ k, k ∈ firstMet (fun i => ns.getD i 0) i ↔ k ∈ ns.take i
  | 0, _ => ⟨by simp [firstMet], fun k => by simp [firstMet]⟩
  | i + 1, hi => by
    obtain ⟨h1, h2⟩ := firstMet_ok ns i (by omega)
    have e1 : ns.getD i 0 = ns[i] := by
      rw [List.getD_eq_getElem?_getD, List.getElem?_eq_getElem hi]; rfl
    have e2 : ns.take (i + 1) = ns.take i ++ [ns[i]] := by
      rw [List.take_add_one, List.getElem?_eq_getElem hi]; rfl
    rw [firstMet_succ, e1, e2]
    unfold step_dedup
    by_cases c : (firstMet (fun i => ns.getD i 0) i).any (· == ns[i]) = true
    · rw [if_pos c]
      obtain ⟨z, hz, hz2⟩ := List.any_eq_true.mp c
      have : z = ns[i] := by simpa using hz2
      subst this
      refine ⟨h1, fun k => ?_⟩
      rw [List.mem_append, List.mem_singleton, h2]
      constructor
      · exact .inl
      · rintro (h | h)
        · exact h
        · subst h; exact (h2 _).mp hz
    · rw [if_neg c]
      have no : ns[i] ∉ firstMet (fun i => ns.getD i 0) i := fun z => c (List.any_eq_true.mpr ⟨_, z, by simp⟩)
      refine ⟨List.nodup_append.mpr ⟨h1, by simp, fun a ha b hb => ?_⟩, fun k => ?_⟩
      · simp at hb; subst hb; exact fun e => no (e ▸ ha)
      · rw [List.mem_append, List.mem_append, h2]
section
variable {X : Cx} {a : Expr} {ta : TE} {p p2 q pos : Pos}
def tSetT (X : Cx) (ta : TE) : TE := fun σ H Q => ta σ H fun x H1 => ∃ (p0 : Addr) (ns : List Int), x = .ref p0 ∧ SqT X.K H1 p0 (ns.map V.int) ∧ ns.length ≤ 1000 ∧ ∀ p, H1 p = none → Q (.ref p) (upd H1 p (SetO X.w p (fun j => decide (j ∈ ns)) ns.eraseDups.length))
theorem setR_size {w : World} {h : Heap} {a : Addr} {ns : List Int} {c : Nat} (R : SetR w h a (fun j => decide (j ∈ ns)) c) : c = ns.eraseDups.length := by
  obtain ⟨o, es, ep, t, _, _, _, _, nd, hm, _, _, hn, _⟩ := R
  have : (es.toList.map L2.keyOf).length = ns.eraseDups.length := nd_len nd (eraseDups_nd _ ns (Nat.le_refl _)) fun k => by
    rw [← hm k, List.mem_eraseDups]; simp
  rw [← hn, ← this]; simp
theorem pe_setT (hc : X.calm = true) (hg : Gl X "set") (hm : X.mg "set" = none) (ha : PE X a ta) (na : starEach [a] X.env = (false, eval a X.env) :: starEach [] X.env) : PE X (.Call (.Name "set" p) [a] [] pos) (tSetT X ta) := by
  refine ⟨fun pins s σ H Q I h => ?_⟩
  refine Call_ (ld_blt I hg hm PyProof.Rows.boot_set ?_)
  refine PyProof.Rows.callWith_type1 (PyProof.Rows.args_cons (thn (ha.run pins s σ H _ I h) fun v s1 ⟨x, H1, I1, r1, q1⟩ => PyProof.Rows.args_nil ?_) na) na rfl
  obtain ⟨p0, ns, rfl, hq, hl, q1⟩ := q1
  cases r1
  obtain ⟨its, rv, pt, hz⟩ := I1.tuple hq
  refine call_set_tupI ns (I1.ok.hd hc) (show s1.heap.IsTuple p0 its.toArray from pt) (ints_of_vals rv) (by unfold scanBound; omega) fun h' tk c R _ k => ?_
  rw [setR_size R] at R
  exact ⟨.ref s1.heap.objs.size, _, I1.laid (t' := tk) k (Nat.le_refl _) (setO_new R), rfl, q1 _ (I1.hok.fresh (Nat.le_refl _))⟩
/-- len(set(a)), a a list or a tuple -/
def tLnS (X : Cx) (ta : TE) : TE := fun σ H Q => ta σ H fun x H1 => ∃ (l : Addr) (ns : List Int), x = .ref l ∧ (SqL X.K H1 l (ns.map V.int) ∨ SqT X.K H1 l (ns.map V.int)) ∧ ns.length ≤ 1000 ∧ Q (.int (ns.eraseDups.length : Nat)) H1
theorem pe_lnS (hc : X.calm = true) (hg : Gl X "len") (hm : X.mg "len" = none) (hg2 : Gl X "set") (hm2 : X.mg "set" = none) (ha : PE X a ta) (na : starEach [a] X.env = (false, eval a X.env) :: starEach [] X.env) :
    PE X (.Call (.Name "len" p) [.Call (.Name "set" p2) [a] [] q] [] pos) (tLnS X ta) := by
  refine ⟨fun pins s σ H Q I h => Call_ (ld_blt I hg hm boot_len (PyProof.Rows.callWith_builtin1 (PyProof.Rows.args_cons (Call_ (ld_blt I hg2 hm2 PyProof.Rows.boot_set ?_)) rfl) rfl rfl))⟩
  refine PyProof.Rows.callWith_type1 (PyProof.Rows.args_cons (thn (ha.run pins s σ H _ I h) fun v s1 ⟨x, H1, I1, r1, q1⟩ => PyProof.Rows.args_nil ?_) na) na rfl
  obtain ⟨l, ns, rfl, hq, hl, q1⟩ := q1
  cases r1
  have hd := I1.ok.hd hc
  rcases hq with hq | hq
  · obtain ⟨its, rv, pl, hz⟩ := I1.list hq
    have hi := ints_of_vals rv
    have hlen : its.toArray.size = ns.length := by have := hi.length; simpa using this
    refine call_set_list hd pl.isList (by simpa using hi) (by rw [hlen]; unfold scanBound; omega) fun h' tk hS hk => PyProof.Rows.args_nil ?_
    obtain ⟨f1, f2⟩ := firstMet_ok ns ns.length (Nat.le_refl _)
    have hfl : (firstMet (fun i => ns.getD i 0) ns.length).length = ns.eraseDups.length := nd_len f1 (eraseDups_nd _ ns (Nat.le_refl _)) fun k => by
      rw [f2, List.take_length, List.mem_eraseDups]
    rw [hlen, hfl] at hS
    obtain ⟨o, es, ep, t, ho, hex, hd2, _, _, _, hf, hn⟩ := hS
    have le : ns.eraseDups.length ≤ 1000 := Nat.le_trans (eraseDups_le ns) hl
    have I2 : Inv X pins σ H1 { s1 with heap := h', toks := tk } := I1.kept fun b o e => hk b o (Heap.lt_size e) e
    exact call_len_set ho hex hd2 hf (by rw [hn] <;> omega) ⟨.int (ns.eraseDups.length : Nat), H1, I2.tok _, ⟨_, by rw [hn]⟩, q1⟩
  · obtain ⟨its, rv, pl, hz⟩ := I1.tuple hq
    refine call_set_tupI ns hd (show s1.heap.IsTuple l its.toArray from pl) (ints_of_vals rv) (by unfold scanBound; omega) fun h' tk c R _ hk => PyProof.Rows.args_nil ?_
    rw [setR_size R] at R
    obtain ⟨o, es, ep, t, ho, hex, hd2, _, _, _, _, hf, hn, _⟩ := R
    have le : ns.eraseDups.length ≤ 1000 := Nat.le_trans (eraseDups_le ns) hl
    have I2 : Inv X pins σ H1 { s1 with heap := h', toks := tk } := I1.kept hk
    exact call_len_set ho hex hd2 hf (by rw [hn] <;> omega) ⟨.int (ns.eraseDups.length : Nat), H1, I2.tok _, ⟨_, by rw [hn]⟩, q1⟩
end
end Mn

set_option maxHeartbeats 2000000
/-! Rep: how small values stand for the layer's values; steps of the abstract heap. -/
namespace Mn
open PySem PySem.Spec PyProof.Rows L2

section
variable (K : PySem.W.Frag) (ρ : List Addr) (H : Hp)
mutual
inductive Rep : MV → V → Prop
  | non : Rep .non .non
  | bl (b : Bool) : Rep (.bl b) (.bl b)
  | int (i : Int) : Rep (.int i) (.int i)
  | str (s : Str) : Rep (.str s) (.str s)
  | tup {xs : List MV} {p : Addr} {vs : List V} : SqT K H p vs → Reps xs vs → Rep (.tup xs) (.ref p)
  | ref {a : Nat} {p : Addr} : ρ[a]? = some p → Rep (.ref a) (.ref p)
inductive Reps : List MV → List V → Prop
  | nil : Reps [] []
  | cons {x : MV} {v : V} {xs : List MV} {vs : List V} : Rep x v → Reps xs vs → Reps (x :: xs) (v :: vs)
end
inductive KReps : List (Key × MV) → List (Key × V) → Prop
  | nil : KReps [] []
  | cons {k : Key} {x : MV} {v : V} {xs : List (Key × MV)} {vs : List (Key × V)} : Rep K ρ H x v → KReps xs vs → KReps ((k, x) :: xs) ((k, v) :: vs)
/-- a list that is only read -/
def FzL (K : PySem.W.Frag) (H : Hp) (p : Addr) (vs : List V) : Prop := (∃ o, H p = some (.frz o (.lst vs))) ∨ SqL K (fun _ => none) p vs
def RepO : MO → Addr → Prop
  | .lst xs, p => ∃ vs, H p = some (.lst vs) ∧ Reps K ρ H xs vs
  | .fro xs, p => ∃ vs, FzL K H p vs ∧ Reps K ρ H xs vs
  | .dct kvs, p => ∃ ws, H p = some (.dK ws) ∧ KReps K ρ H kvs ws
end
theorem FzL.seq {K : PySem.W.Frag} {H : Hp} {p : Addr} {vs : List V} (h : FzL K H p vs) : SqL K H p vs := by
  rcases h with ⟨o, h⟩ | h
  · exact .inl (.inr ⟨o, h⟩)
  · rcases h with h | h
    · rcases h with h | ⟨_, h⟩ <;> cases h
    · exact .inr h
theorem FzL.at {K : PySem.W.Frag} {H H' : Hp} {p : Addr} {vs : List V} (h : FzL K H p vs) (k : ∀ o u, H p = some (.frz o u) → H' p = some (.frz o u)) : FzL K H' p vs := by
  rcases h with ⟨o, h⟩ | h
  · exact .inl ⟨o, k _ _ h⟩
  · exact .inr h
def MO.mut : MO → Bool
  | .fro _ => false
  | _ => true
structure RepH (K : PySem.W.Frag) (ρ : List Addr) (mh : MH) (H : Hp) : Prop where
  len : ρ.length = mh.length
  inj : ∀ (a b : Nat) (p : Addr) (oa ob : MO), ρ[a]? = some p → ρ[b]? = some p → mh[a]? = some oa → mh[b]? = some ob → oa.mut = true → ob.mut = true → a = b
  obj : ∀ (a : Nat) (p : Addr) (o : MO), ρ[a]? = some p → mh[a]? = some o → RepO K ρ H o p
def Mu (ρ : List Addr) (mh : MH) (p : Addr) : Prop := ∃ (a : Nat) (o : MO), ρ[a]? = some p ∧ mh[a]? = some o ∧ o.mut = true
structure Stp (ρ : List Addr) (mh : MH) (H : Hp) (ρ' : List Addr) (mh' : MH) (H' : Hp) : Prop where
  pre : ρ <+: ρ'
  new : ∀ p, Mu ρ' mh' p → Mu ρ mh p ∨ H p = none
  frm : ∀ p o, ¬ Mu ρ mh p → H p = some o → H' p = some o
theorem Stp.refl {ρ : List Addr} {mh : MH} {H : Hp} : Stp ρ mh H ρ mh H := ⟨List.prefix_refl _, fun _ h => .inl h, fun _ _ _ h => h⟩
theorem Stp.trans {ρ ρ1 ρ2 : List Addr} {mh m1 m2 : MH} {H H1 H2 : Hp} (a : Stp ρ mh H ρ1 m1 H1) (b : Stp ρ1 m1 H1 ρ2 m2 H2) : Stp ρ mh H ρ2 m2 H2 := by
  refine ⟨a.pre.trans b.pre, fun p h => ?_, fun p o n h => ?_⟩
  · rcases b.new p h with h | h
    · exact a.new p h
    · by_cases m : Mu ρ mh p
      · exact .inl m
      · cases e : H p with
        | none => exact .inr rfl
        | some o => rw [a.frm p o m e] at h; cases h
  · refine b.frm p o (fun m => ?_) (a.frm p o n h)
    rcases a.new p m with z | z
    · exact n z
    · rw [h] at z; cases z
theorem RepH.mu {K : PySem.W.Frag} {ρ : List Addr} {mh : MH} {H : Hp} (R : RepH K ρ mh H) {p : Addr} (m : Mu ρ mh p) : (∃ vs, H p = some (.lst vs)) ∨ ∃ ws, H p = some (.dK ws) := by
  obtain ⟨a, o, e1, e2, e3⟩ := m
  have h := R.obj a p o e1 e2
  cases o with
  | lst xs => obtain ⟨vs, e, _⟩ := h; exact .inl ⟨vs, e⟩
  | fro xs => cases e3
  | dct kvs => obtain ⟨vs, e, _⟩ := h; exact .inr ⟨vs, e⟩
theorem prefix_get {α : Type} {l l' : List α} (h : l <+: l') {i : Nat} {x : α} (e : l[i]? = some x) : l'[i]? = some x := by
  obtain ⟨t, rfl⟩ := h
  have hl : i < l.length := (List.getElem?_eq_some_iff.mp e).1
  rw [List.getElem?_append_left hl]; exact e
theorem SqT.stp {K : PySem.W.Frag} {ρ ρ' : List Addr} {mh mh' : MH} {H H' : Hp} (R : RepH K ρ mh H) (S : Stp ρ mh H ρ' mh' H') {p : Addr} {vs : List V} (h : SqT K H p vs) : SqT K H' p vs := by
  rcases h with h | h
  · refine .inl ?_
    have nm : ¬ Mu ρ mh p := fun m => by
      rcases R.mu m with ⟨xs, e⟩ | ⟨xs, e⟩ <;> (rcases h with h | ⟨o, h⟩ <;> (rw [e] at h; cases h))
    rcases h with h | ⟨o, h⟩
    · exact .inl (S.frm p _ nm h)
    · exact .inr ⟨o, S.frm p _ nm h⟩
  · exact .inr h
section
variable {K : PySem.W.Frag} {ρ ρ' : List Addr} {mh mh' : MH} {H H' : Hp}
mutual
theorem Rep.mono' (hp : ρ <+: ρ') (ht : ∀ p vs, SqT K H p vs → SqT K H' p vs) : ∀ (x : MV) (v : V), Rep K ρ H x v → Rep K ρ' H' x v
  | .non, _, h => by cases h; exact .non
  | .bl _, _, h => by cases h; exact .bl _
  | .int _, _, h => by cases h; exact .int _
  | .str _, _, h => by cases h; exact .str _
  | .ref a, _, h => by cases h with | ref e => exact .ref (prefix_get hp e)
  | .tup xs, _, h => by cases h with | tup s r => exact .tup (ht _ _ s) (Reps.mono' hp ht xs _ r)
theorem Reps.mono' (hp : ρ <+: ρ') (ht : ∀ p vs, SqT K H p vs → SqT K H' p vs) : ∀ (xs : List MV) (vs : List V), Reps K ρ H xs vs → Reps K ρ' H' xs vs
  | [], _, h => by cases h; exact .nil
  | x :: xs, _, h => by cases h with | cons a b => exact .cons (Rep.mono' hp ht x _ a) (Reps.mono' hp ht xs _ b)
end
theorem Rep.stp (R : RepH K ρ mh H) (S : Stp ρ mh H ρ' mh' H') {x : MV} {v : V} (h : Rep K ρ H x v) : Rep K ρ' H' x v := Rep.mono' S.pre (fun _ _ q => Mn.SqT.stp R S q) x v h
theorem Reps.stp (R : RepH K ρ mh H) (S : Stp ρ mh H ρ' mh' H') {x : List MV} {v : List V} (h : Reps K ρ H x v) : Reps K ρ' H' x v := Reps.mono' S.pre (fun _ _ q => Mn.SqT.stp R S q) x v h
theorem KReps.mono' (hp : ρ <+: ρ') (ht : ∀ p vs, SqT K H p vs → SqT K H' p vs) {x : List (Key × MV)} {v : List (Key × V)} (h : KReps K ρ H x v) : KReps K ρ' H' x v := by
  induction h with
  | nil => exact .nil
  | cons a _ ih => exact .cons (Rep.mono' hp ht _ _ a) ih
theorem Reps.length {xs : List MV} {vs : List V} (h : Reps K ρ H xs vs) : xs.length = vs.length := by
  induction xs generalizing vs with
  | nil => cases h; rfl
  | cons x xs ih => cases h with | cons a b => simp [ih b]
theorem Reps.get {xs : List MV} {vs : List V} (h : Reps K ρ H xs vs) {i : Nat} {x : MV} (e : xs[i]? = some x) : ∃ v, vs[i]? = some v ∧ Rep K ρ H x v := by
  induction xs generalizing vs i with
  | nil => simp at e
  | cons y xs ih =>
    cases h with
    | cons a b =>
      cases i with
      | zero => simp at e; subst e; exact ⟨_, rfl, a⟩
      | succ i => simpa using ih b (by simpa using e)
theorem Reps.set {xs : List MV} {vs : List V} (h : Reps K ρ H xs vs) {x : MV} {v : V} (r : Rep K ρ H x v) (i : Nat) : Reps K ρ H (xs.set i x) (vs.set i v) := by
  induction xs generalizing vs i with
  | nil => cases h; exact .nil
  | cons y xs ih =>
    cases h with
    | cons a b =>
      cases i with
      | zero => exact .cons r b
      | succ i => exact .cons a (ih b i)
theorem Reps.append {xs ys : List MV} {vs ws : List V} (h : Reps K ρ H xs vs) (g : Reps K ρ H ys ws) : Reps K ρ H (xs ++ ys) (vs ++ ws) := by
  induction xs generalizing vs with
  | nil => cases h; exact g
  | cons y xs ih => cases h with | cons a b => exact .cons a (ih b)
theorem Reps.take {xs : List MV} {vs : List V} (h : Reps K ρ H xs vs) (n : Nat) : Reps K ρ H (xs.take n) (vs.take n) := by
  induction xs generalizing vs n with
  | nil => cases h; simp; exact .nil
  | cons y xs ih =>
    cases h with
    | cons a b =>
      cases n with
      | zero => exact .nil
      | succ i => exact .cons a (ih b i)
theorem Reps.drop {xs : List MV} {vs : List V} (h : Reps K ρ H xs vs) (n : Nat) : Reps K ρ H (xs.drop n) (vs.drop n) := by
  induction xs generalizing vs n with
  | nil => cases h; simp; exact .nil
  | cons y xs ih =>
    cases h with
    | cons a b =>
      cases n with
      | zero => exact .cons a b
      | succ i => exact ih b i
theorem Reps.one {x : MV} {v : V} (h : Rep K ρ H x v) : Reps K ρ H [x] [v] := .cons h .nil
theorem Reps.reverse {xs : List MV} {vs : List V} (h : Reps K ρ H xs vs) : Reps K ρ H xs.reverse vs.reverse := by
  induction xs generalizing vs with
  | nil => cases h; exact .nil
  | cons y xs ih => cases h with | cons a b => simp only [List.reverse_cons]; exact (ih b).append (.one a)
theorem Reps.flatRep {xs : List MV} {vs : List V} (h : Reps K ρ H xs vs) (n : Nat) : Reps K ρ H (List.replicate n xs).flatten (List.replicate n vs).flatten := by
  induction n with
  | zero => exact .nil
  | succ n ih => simp only [List.replicate_succ, List.flatten_cons]; exact h.append ih
theorem Reps.eraseIdx {xs : List MV} {vs : List V} (h : Reps K ρ H xs vs) (i : Nat) : Reps K ρ H (xs.eraseIdx i) (vs.eraseIdx i) := by
  rw [List.eraseIdx_eq_take_drop_succ, List.eraseIdx_eq_take_drop_succ]
  exact (h.take _).append (h.drop _)
theorem Reps.dropLast {xs : List MV} {vs : List V} (h : Reps K ρ H xs vs) : Reps K ρ H xs.dropLast vs.dropLast := by
  rw [List.dropLast_eq_take, List.dropLast_eq_take, h.length]; exact h.take _
theorem KReps.length {xs : List (Key × MV)} {vs : List (Key × V)} (h : KReps K ρ H xs vs) : xs.length = vs.length := by
  induction h with
  | nil => rfl
  | cons _ _ ih => simp [ih]
/-- ints read off -/
theorem Reps.ints : ∀ {xs : List MV} {vs : List V} {ns : List Int}, Reps K ρ H xs vs → allInts xs = some ns → vs = ns.map V.int
  | [], _, _, h, e => by cases h; simp [allInts] at e; subst e; rfl
  | x :: xs, _, _, h, e => by
    cases h with
    | cons a b =>
      cases a with
      | int i =>
        simp only [allInts] at e
        cases q : allInts xs with
        | none => rw [q] at e; cases e
        | some ms => rw [q] at e; simp at e; subst e; simp [Reps.ints b q]
      | _ => simp [allInts] at e
theorem Reps.bls : ∀ {xs : List MV} {vs : List V} {ns : List Bool}, Reps K ρ H xs vs → allBls xs = some ns → vs = ns.map V.bl
  | [], _, _, h, e => by cases h; simp [allBls] at e; subst e; rfl
  | x :: xs, _, _, h, e => by
    cases h with
    | cons a b =>
      cases a with
      | bl i =>
        simp only [allBls] at e
        cases q : allBls xs with
        | none => rw [q] at e; cases e
        | some ms => rw [q] at e; simp at e; subst e; simp [Reps.bls b q]
      | _ => simp [allBls] at e
theorem Reps.ofInts (ns : List Int) : Reps K ρ H (ns.map .int) (ns.map V.int) := by
  induction ns with
  | nil => exact .nil
  | cons n ns ih => exact .cons (.int n) ih
end
section
variable {K : PySem.W.Frag} {ρ : List Addr} {mh : MH} {H : Hp}
theorem RepH.get (R : RepH K ρ mh H) {a : Nat} {o : MO} (e : mh[a]? = some o) : ∃ p, ρ[a]? = some p ∧ RepO K ρ H o p := by
  have hl : a < mh.length := (List.getElem?_eq_some_iff.mp e).1
  have hl' : a < ρ.length := by rw [R.len]; exact hl
  exact ⟨ρ[a], List.getElem?_eq_getElem hl', R.obj a _ o (List.getElem?_eq_getElem hl') e⟩
theorem RepH.lst (R : RepH K ρ mh H) {a : Nat} {xs : List MV} {p : Addr} (h : ρ[a]? = some p) (e : mh[a]? = some (.lst xs)) : ∃ vs, H p = some (.lst vs) ∧ Reps K ρ H xs vs := R.obj a p _ h e
theorem RepH.dct (R : RepH K ρ mh H) {a : Nat} {xs : List (Key × MV)} {p : Addr} (h : ρ[a]? = some p) (e : mh[a]? = some (.dct xs)) : ∃ vs, H p = some (.dK vs) ∧ KReps K ρ H xs vs := R.obj a p _ h e
theorem RepH.lsts (R : RepH K ρ mh H) {a : Nat} {xs : List MV} {p : Addr} (h : ρ[a]? = some p) (e : lsts mh a = some xs) : ∃ vs, SqL K H p vs ∧ Reps K ρ H xs vs := by
  unfold Mn.lsts at e
  split at e
  · cases e
    obtain ⟨vs, h1, h2⟩ := R.lst h (by assumption)
    exact ⟨vs, .of h1, h2⟩
  · cases e
    obtain ⟨vs, h1, h2⟩ := R.obj a p _ h (by assumption)
    exact ⟨vs, h1.seq, h2⟩
  · cases e
/-- a new object -/
theorem RepH.push (R : RepH K ρ mh H) {p : Addr} {o : MO} {ho : HO} (hn : H p = none) (hm : o.mut = true) (new : ∀ H', (∀ q, q ≠ p → H' q = H q) → H' p = some ho → RepO K (ρ ++ [p]) H' o p) :
    RepH K (ρ ++ [p]) (mh ++ [o]) (upd H p ho) ∧ Stp ρ mh H (ρ ++ [p]) (mh ++ [o]) (upd H p ho) := by
  have muN : ∀ q, Mu ρ mh q → q ≠ p := fun q m e => by
    subst e
    rcases R.mu m with ⟨_, z⟩ | ⟨_, z⟩ <;> (rw [hn] at z; cases z)
  have ht : ∀ q vs, SqT K H q vs → SqT K (upd H p ho) q vs := fun q vs h => by
    rcases h with h | h
    · refine .inl ?_
      rcases h with h | ⟨u, h⟩
      · exact .inl (by rw [upd_ne (ne_of_none h hn)]; exact h)
      · exact .inr ⟨u, by rw [upd_ne (ne_of_none h hn)]; exact h⟩
    · exact .inr h
  have hl : ∀ q vs, FzL K H q vs → FzL K (upd H p ho) q vs := fun q vs h => h.at fun o u e => by rw [upd_ne (ne_of_none e hn)]; exact e
  have pre : ρ <+: ρ ++ [p] := List.prefix_append _ _
  have split : ∀ (a : Nat) (q : Addr) (u : MO), (ρ ++ [p])[a]? = some q → (mh ++ [o])[a]? = some u → (ρ[a]? = some q ∧ mh[a]? = some u) ∨ (a = ρ.length ∧ q = p ∧ u = o) := fun a q u e1 e2 => by
    by_cases h : a < ρ.length
    · rw [List.getElem?_append_left h] at e1
      rw [List.getElem?_append_left (by rw [← R.len]; exact h)] at e2
      exact .inl ⟨e1, e2⟩
    · have h1 : a < (ρ ++ [p]).length := (List.getElem?_eq_some_iff.mp e1).1
      have h2 : a = ρ.length := by simp at h1; omega
      subst h2
      simp at e1
      rw [R.len] at e2
      simp at e2
      exact .inr ⟨rfl, e1.symm, e2.symm⟩
  refine ⟨⟨by simp [R.len], fun a b q oa ob e1 e2 e3 e4 m1 m2 => ?_, fun a q u e1 e2 => ?_⟩, pre, fun q m => ?_, fun q u nm e => by rw [upd_ne (ne_of_none e hn)]; exact e⟩
  · rcases split a q oa e1 e3 with ⟨h1, h2⟩ | ⟨rfl, rfl, rfl⟩
    · rcases split b q ob e2 e4 with ⟨h3, h4⟩ | ⟨rfl, rfl, rfl⟩
      · exact R.inj a b q oa ob h1 h3 h2 h4 m1 m2
      · exact absurd rfl (muN q ⟨a, oa, h1, h2, m1⟩)
    · rcases split b q ob e2 e4 with ⟨h3, h4⟩ | ⟨rfl, _, rfl⟩
      · exact absurd rfl (muN q ⟨b, ob, h3, h4, m2⟩)
      · rfl
  · rcases split a q u e1 e2 with ⟨h1, h2⟩ | ⟨rfl, rfl, rfl⟩
    · have h := R.obj a q u h1 h2
      cases u with
      | lst xs => obtain ⟨vs, z, r⟩ := h; exact ⟨vs, by rw [upd_ne (ne_of_none z hn)]; exact z, Reps.mono' pre ht _ _ r⟩
      | fro xs => obtain ⟨vs, z, r⟩ := h; exact ⟨vs, hl _ _ z, Reps.mono' pre ht _ _ r⟩
      | dct xs => obtain ⟨vs, z, r⟩ := h; exact ⟨vs, by rw [upd_ne (ne_of_none z hn)]; exact z, KReps.mono' pre ht r⟩
    · exact new _ (fun q hq => upd_ne hq) upd_same
  · obtain ⟨a, u, e1, e2, e3⟩ := m
    rcases split a q u e1 e2 with ⟨h1, h2⟩ | ⟨_, rfl, _⟩
    · exact .inl ⟨a, u, h1, h2, e3⟩
    · exact .inr hn
theorem Reps.updNew {H : Hp} {p : Addr} {ho : HO} {xs : List MV} {vs : List V} (hn : H p = none) (h : Reps K ρ H xs vs) : Reps K ρ (upd H p ho) xs vs := Reps.mono' (List.prefix_refl _) (fun q ws h => by
    rcases h with h | h
    · refine .inl ?_
      rcases h with h | ⟨u, h⟩
      · exact .inl (by rw [upd_ne (ne_of_none h hn)]; exact h)
      · exact .inr ⟨u, by rw [upd_ne (ne_of_none h hn)]; exact h⟩
    · exact .inr h) _ _ h
theorem RepH.pushL (R : RepH K ρ mh H) {p : Addr} {xs : List MV} {vs : List V} (hn : H p = none) (r : Reps K ρ H xs vs) :
    RepH K (ρ ++ [p]) (mh ++ [.lst xs]) (upd H p (.lst vs)) ∧ Stp ρ mh H (ρ ++ [p]) (mh ++ [.lst xs]) (upd H p (.lst vs)) ∧ Rep K (ρ ++ [p]) (upd H p (.lst vs)) (.ref mh.length) (.ref p) := by
  obtain ⟨a, b⟩ := R.push (o := .lst xs) (ho := .lst vs) hn rfl (fun H' h1 h2 => ⟨vs, h2, by
    refine Reps.mono' (List.prefix_append _ _) (fun q ws h => ?_) _ _ r
    rcases h with h | h
    · refine .inl ?_
      rcases h with h | ⟨u, h⟩
      · exact .inl (by rw [h1 q (ne_of_none h hn)]; exact h)
      · exact .inr ⟨u, by rw [h1 q (ne_of_none h hn)]; exact h⟩
    · exact .inr h⟩)
  exact ⟨a, b, .ref (by rw [← R.len]; simp)⟩
/-- a new tuple: it takes no place -/
theorem RepH.tupl (R : RepH K ρ mh H) {p : Addr} {xs : List MV} {vs : List V} (hn : H p = none) (r : Reps K ρ H xs vs) :
    RepH K ρ mh (upd H p (.tup vs)) ∧ Stp ρ mh H ρ mh (upd H p (.tup vs)) ∧ Rep K ρ (upd H p (.tup vs)) (.tup xs) (.ref p) := by
  have ht : ∀ q vs', SqT K H q vs' → SqT K (upd H p (.tup vs)) q vs' := fun q vs' h => by
    rcases h with h | h
    · refine .inl ?_
      rcases h with h | ⟨u, h⟩
      · exact .inl (by rw [upd_ne (ne_of_none h hn)]; exact h)
      · exact .inr ⟨u, by rw [upd_ne (ne_of_none h hn)]; exact h⟩
    · exact .inr h
  have hl : ∀ q vs', FzL K H q vs' → FzL K (upd H p (.tup vs)) q vs' := fun q vs' h => h.at fun o u e => by rw [upd_ne (ne_of_none e hn)]; exact e
  refine ⟨⟨R.len, R.inj, fun a q o e1 e2 => ?_⟩, ⟨List.prefix_refl _, fun q m => .inl m, fun q u _ e => by rw [upd_ne (ne_of_none e hn)]; exact e⟩, .tup (.of upd_same) (Reps.mono' (List.prefix_refl _) ht _ _ r)⟩
  have h := R.obj a q o e1 e2
  cases o with
  | lst xs => obtain ⟨vs, z, r⟩ := h; exact ⟨vs, by rw [upd_ne (ne_of_none z hn)]; exact z, Reps.mono' (List.prefix_refl _) ht _ _ r⟩
  | fro xs => obtain ⟨vs, z, r⟩ := h; exact ⟨vs, hl _ _ z, Reps.mono' (List.prefix_refl _) ht _ _ r⟩
  | dct xs => obtain ⟨vs, z, r⟩ := h; exact ⟨vs, by rw [upd_ne (ne_of_none z hn)]; exact z, KReps.mono' (List.prefix_refl _) ht r⟩
/-- a list or a dict is written -/
theorem RepH.set (R : RepH K ρ mh H) {a : Nat} {p : Addr} {o o' : MO} {ho : HO} (hp : ρ[a]? = some p) (e : mh[a]? = some o) (hm : o.mut = true) (hm' : o'.mut = true)
    (new : ∀ H', (∀ q vs, SqT K H q vs → SqT K H' q vs) → H' p = some ho → RepO K ρ H' o' p) :
    RepH K ρ (mh.set a o') (upd H p ho) ∧ Stp ρ mh H ρ (mh.set a o') (upd H p ho) := by
  have hz := R.mu ⟨a, o, hp, e, hm⟩
  have ht : ∀ q vs', SqT K H q vs' → SqT K (upd H p ho) q vs' := fun q vs' h => by
    rcases h with h | h
    · refine .inl ?_
      have ne : q ≠ p := fun z => by
        subst z
        rcases hz with ⟨_, z⟩ | ⟨_, z⟩ <;> (rcases h with h | ⟨o, h⟩ <;> (rw [z] at h; cases h))
      rcases h with h | ⟨u, h⟩
      · exact .inl (by rw [upd_ne ne]; exact h)
      · exact .inr ⟨u, by rw [upd_ne ne]; exact h⟩
    · exact .inr h
  have hla : a < mh.length := (List.getElem?_eq_some_iff.mp e).1
  refine ⟨⟨by simp [R.len], fun i j q oa ob e1 e2 e3 e4 m1 m2 => ?_, fun i q u e1 e2 => ?_⟩, List.prefix_refl _, fun q m => ?_, fun q u nm h => ?_⟩
  · have f : ∀ i (u : MO), (mh.set a o')[i]? = some u → u.mut = true → ∃ u' : MO, mh[i]? = some u' ∧ u'.mut = true := fun i u h m => by
      by_cases hi : i = a
      · subst hi; exact ⟨o, e, hm⟩
      · rw [List.getElem?_set_ne (Ne.symm hi)] at h; exact ⟨u, h, m⟩
    obtain ⟨oa', h3, n1⟩ := f i oa e3 m1
    obtain ⟨ob', h4, n2⟩ := f j ob e4 m2
    exact R.inj i j q oa' ob' e1 e2 h3 h4 n1 n2
  · by_cases hi : i = a
    · subst hi
      rw [hp] at e1; cases e1
      rw [List.getElem?_set_self hla] at e2; cases e2
      exact new _ ht upd_same
    · rw [List.getElem?_set_ne (Ne.symm hi)] at e2
      have h := R.obj i q u e1 e2
      have nq : u.mut = true → q ≠ p := fun m z => by
        subst z
        exact hi (R.inj i a q u o e1 hp e2 e m hm)
      cases u with
      | lst xs => obtain ⟨vs, z, r⟩ := h; exact ⟨vs, by rw [upd_ne (nq rfl)]; exact z, Reps.mono' (List.prefix_refl _) ht _ _ r⟩
      | fro xs =>
        obtain ⟨vs, z, r⟩ := h
        refine ⟨vs, z.at fun u w e => ?_, Reps.mono' (List.prefix_refl _) ht _ _ r⟩
        have ne : q ≠ p := fun y => by
          subst y
          rcases hz with ⟨_, y⟩ | ⟨_, y⟩ <;> (rw [y] at e; cases e)
        rw [upd_ne ne]; exact e
      | dct xs => obtain ⟨vs, z, r⟩ := h; exact ⟨vs, by rw [upd_ne (nq rfl)]; exact z, KReps.mono' (List.prefix_refl _) ht r⟩
  · obtain ⟨i, u, h1, h2, h3⟩ := m
    by_cases hi : i = a
    · subst hi; rw [hp] at h1; cases h1; exact .inl ⟨i, o, hp, e, hm⟩
    · rw [List.getElem?_set_ne (Ne.symm hi)] at h2; exact .inl ⟨i, u, h1, h2, h3⟩
  · have ne : q ≠ p := fun z => by subst z; exact nm ⟨a, o, hp, e, hm⟩
    rw [upd_ne ne]; exact h
end
end Mn

set_option maxHeartbeats 2000000
/-! ExcJ: what the __init__ of a refusal of the program promises. -/
namespace Mn
open PySem PySem.Spec PyProof.Rows L2

/-- JoinError.__init__, by the class -/
structure JoinOk (K : PySem.W.Frag) (mg : Str → Option Value) (J : Addr) : Prop where
  g : mg "JoinError" = some (.ref J)
  rd : PySem.W.readsIn K J (.type "type") = true
  sp : PySem.W.specialIn K (.ref J) "__getattribute__" = some (some (.builtin "type.__getattribute__"))
  fc : PySem.W.findCls K (.ref J) (.type "type") "__init__" = some (.val (.builtin "ValueError.__init__"))
section
variable {X : Cx} {o e : Expr} {es : List Expr} {to te : TE} {ta : TA} {f : Str} {p p' p1 p2 pos : Pos}
theorem pe_jinit {J : Addr} {pl : Sem Bool} (j : JoinOk X.K X.mg J) (hg : Gl X "JoinError") (ha : PA X (e :: es) ta)
    (hc : eval (.Call (.Attribute (.Name "JoinError" p1) "__init__" p2) (e :: es) [] pos) X.env = (do
      let ov ← eval (.Name "JoinError" p1) X.env
      standAt p2.atName
      let (f, first) ← holding [ov] (getMethod ov "__init__" pl)
      callWith pos f first (backTo pos (starEach (e :: es) X.env)) (backToKw pos (keywordEach [] X.env))))
    (he : starEach (e :: es) X.env = (false, eval e X.env) :: starEach es X.env := by rfl) (hpl : (backTo pos (starEach es X.env)).any (·.1) = false := by rfl) :
    PE X (.Call (.Attribute (.Name "JoinError" p1) "__init__" p2) (e :: es) [] pos) (tVeI X.K ta) := by
  refine ⟨fun pins s σ H Q I h => ?_⟩
  refine PySem.W.methodCall_KW (ld_glob I hg j.g ?_) hc
  refine PySem.W.method_cls I.kIn j.sp (PySem.W.cls_value I.kIn j.rd j.fc (by decide +kernel) ?_)
  show wpAny _ _ (callWith pos (Value.builtin "ValueError.__init__") [] (backTo pos (starEach (e :: es) X.env)) []) _ _ _
  refine PyProof.Rows.callWith_method1 (thn (ha.run pos pins _ σ H _ (I.tok _) h) fun us s1 ⟨vs, H1, I1, r1, a, C, ws, ev, hl, T, ea, q⟩ => ?_) he hpl
  subst ev
  cases r1 with
  | @cons _ u0 _ ur ra rw' =>
    obtain rfl : u0 = Value.ref a := ra
    have hlen : ur.length ≤ sizeLine := by
      have := Paired.length rw'
      have := sizeLine_eq
      omega
    exact oinit_ok T I1 ea hlen fun s' I2 => ⟨V.non, H1, I2, rfl, q⟩
end
/-- how such a call is read, at its place in the text -/
def CallAt (p1 p2 pos : Pos) (es : List Expr) : Prop := ∀ env : Env, ∃ pl : Sem Bool, eval (.Call (.Attribute (.Name "JoinError" p1) "__init__" p2) es [] pos) env = (do
      let ov ← eval (.Name "JoinError" p1) env
      standAt p2.atName
      let (f, first) ← holding [ov] (getMethod ov "__init__" pl)
      callWith pos f first (backTo pos (starEach es env)) (backToKw pos (keywordEach [] env)))
/-- what __init__ leaves -/
def spIni (C : Addr) (flds : List Str) : Sp := fun vs H Q _ => ∃ (a : Addr) (ws : List V), vs = .ref a :: ws ∧ ws.length = flds.length ∧ H a = some (exo a C none) ∧
  ∀ (H2 : Hp) (d : Addr) (l : List (Str × V)), H d = none → d ≠ a → H2 a = some (exo a C (some d)) → H2 d = some (exd d l) → (∀ b, b ≠ a → b ≠ d → H2 b = H b) → (∀ (i : Nat) (x : Str) (w : V), flds[i]? = some x → ws[i]? = some w → l.lookup x = some w) → Q .non H2
section
variable {P : Program} {w : World} {K : PySem.W.Frag} {mg : Str → Option Value} {base : Heap} {C J fI : Addr} {qual : Str} {st : Stmt} {fd : FuncData} {f g m : Str}
variable {q1 q2 q3 q4 q5 q6 q7 q8 q9 q10 q11 q12 q13 q14 q15 : Pos} {jj : Nat}
theorem ini_len {flds ps : List Str} (h : ps.length = flds.length + 1) : ∀ vs H Q E, spIni C flds vs H Q E → vs.length = ps.length := fun vs H Q E x => by
  obtain ⟨a, ws, rfl, hl, _⟩ := x
  simp [hl, h]
theorem ini1 (F : Fun K "__init__" qual st fI fd) (S : FnScope ["self", f] ["self", f] (defScope st)) (j : JoinOk K mg J) (T : OexC K C) (no : PySem.W.findIn K (.ref C) f = some none)
    (hb : defBody st = [.Expr (.Call (.Attribute (.Name "JoinError" q1) "__init__" q2) [.Name "self" q3, .Constant (.str m) jj q4] [] q5) q6, .Assign [.Attribute (.Name "self" q7) f q8] (.Name f q9) q10])
    (hev : CallAt q1 q2 q5 [.Name "self" q3, .Constant (.str m) jj q4]) (gl : (defScope st).names.lookup ("JoinError" : Str) = some .globalImplicit) (hd : (f == ("__debug__" : Str)) = false ∧ (f == ("__classdict__" : Str)) = false) :
    FnOk P w K mg base (L2.CX P w) 1 fI fd ["self", f] (spIni C [f]) := by
  refine F.okX S (ini_len rfl) fun cdv A outer s H vs Q E hr h => ?_
  have vis : ∀ x ∈ [("self" : Str), f], Vis (defScope st) x := fun x hx => by
    rcases S.par x hx with h | h
    · exact .inl h
    · exact .inr (.inl h)
  rw [hb]
  obtain ⟨pl, hev⟩ := hev (cxOf (L2.CX P w) P w K mg base ["self", f] qual (defScope st) fI cdv A outer s H E).env
  refine ⟨_, pss_cons (ps_expr (pe_jinit j (by exact gl) (pa_cons (pe_var (i := 0) rfl (vis _ (by simp)) (by decide) (by decide)) (pa_cons pe_str pa_nil rfl) rfl) hev)) (pss_one (ps_ost (pe_var (i := 0) rfl (vis _ (by simp)) (by decide) (by decide)) (pe_var (i := 1) rfl (vis _ (by simp)) hd.1 hd.2))), ?_⟩
  obtain ⟨a, ws, rfl, hl, ha, q⟩ := h
  match ws, hl with
  | [w], _ =>
    refine ⟨_, rfl, a, C, _, rfl, by simp, T, ha, ?_⟩
    refine ⟨_, rfl, _, rfl, a, C, rfl, T, no, .inl ⟨ha, fun dx hdx hne => ?_⟩⟩
    refine q _ dx [(f, w)] hdx hne upd_same (by rw [upd_ne hne, upd_same]) (fun b h1 h2 => by rw [upd_ne h1, upd_ne h2]) fun i x v hx hv => ?_
    cases i with
    | zero => cases hx; cases hv; simp [List.lookup]
    | succ i => simp at hx
theorem ini2 (F : Fun K "__init__" qual st fI fd) (S : FnScope ["self", f, g] ["self", f, g] (defScope st)) (j : JoinOk K mg J) (T : OexC K C) (no : PySem.W.findIn K (.ref C) f = some none) (no2 : PySem.W.findIn K (.ref C) g = some none)
    (hb : defBody st = [.Expr (.Call (.Attribute (.Name "JoinError" q1) "__init__" q2) [.Name "self" q3, .Constant (.str m) jj q4] [] q5) q6, .Assign [.Attribute (.Name "self" q7) f q8] (.Name f q9) q10, .Assign [.Attribute (.Name "self" q11) g q12] (.Name g q13) q14])
    (hev : CallAt q1 q2 q5 [.Name "self" q3, .Constant (.str m) jj q4]) (gl : (defScope st).names.lookup ("JoinError" : Str) = some .globalImplicit) (hfg : f ≠ g) (hd : (f == ("__debug__" : Str)) = false ∧ (f == ("__classdict__" : Str)) = false) (hd2 : (g == ("__debug__" : Str)) = false ∧ (g == ("__classdict__" : Str)) = false) :
    FnOk P w K mg base (L2.CX P w) 1 fI fd ["self", f, g] (spIni C [f, g]) := by
  refine F.okX S (ini_len rfl) fun cdv A outer s H vs Q E hr h => ?_
  have vis : ∀ x ∈ [("self" : Str), f, g], Vis (defScope st) x := fun x hx => by
    rcases S.par x hx with h | h
    · exact .inl h
    · exact .inr (.inl h)
  rw [hb]
  obtain ⟨pl, hev⟩ := hev (cxOf (L2.CX P w) P w K mg base ["self", f, g] qual (defScope st) fI cdv A outer s H E).env
  refine ⟨_, pss_cons (ps_expr (pe_jinit j (by exact gl) (pa_cons (pe_var (i := 0) rfl (vis _ (by simp)) (by decide) (by decide)) (pa_cons pe_str pa_nil rfl) rfl) hev)) (pss_cons (ps_ost (pe_var (i := 0) rfl (vis _ (by simp)) (by decide) (by decide)) (pe_var (i := 1) rfl (vis _ (by simp)) hd.1 hd.2))
    (pss_one (ps_ost (pe_var (i := 0) rfl (vis _ (by simp)) (by decide) (by decide)) (pe_var (i := 2) rfl (vis _ (by simp)) hd2.1 hd2.2)))), ?_⟩
  obtain ⟨a, ws, rfl, hl, ha, q⟩ := h
  match ws, hl with
  | [v, w], _ =>
    refine ⟨_, rfl, a, C, _, rfl, by simp, T, ha, ?_⟩
    refine ⟨_, rfl, _, rfl, a, C, rfl, T, no, .inl ⟨ha, fun dx hdx hne => ?_⟩⟩
    refine ⟨_, rfl, _, rfl, a, C, rfl, T, no2, .inr ⟨dx, [(f, v)], upd_same, by rw [upd_ne hne, upd_same], by simp, ?_⟩⟩
    refine q _ dx [(g, w), (f, v)] hdx hne (by rw [upd_ne (Ne.symm hne), upd_same]) upd_same (fun b h1 h2 => by rw [upd_ne h2, upd_ne h1, upd_ne h2]) fun i x u hx hv => ?_
    match i with
    | 0 =>
      cases hx; cases hv
      have hz : (f == g) = false := by simpa using hfg
      simp [List.lookup, hz]
    | 1 => cases hx; cases hv; simp [List.lookup]
    | i + 2 => simp at hx
end
end Mn

set_option maxHeartbeats 4000000
/-! Ops: operators, comparisons, subscripts, built-ins, methods: what the small evaluator says, the model does. -/
namespace Mn
open PySem PySem.Spec PyProof.Rows L2

def Post (K : PySem.W.Frag) (ρ : List Addr) (mh : MH) (H : Hp) (mv : MV) (mh' : MH) (Q : VK) : Prop :=
  ∀ v H' ρ', RepH K ρ' mh' H' → Rep K ρ' H' mv v → Stp ρ mh H ρ' mh' H' → Q v H'
section
variable {K : PySem.W.Frag} {ρ ρ1 : List Addr} {mh m1 mh' : MH} {H H1 : Hp} {mv : MV} {Q : VK}
theorem Post.same (P : Post K ρ mh H mv mh Q) (R : RepH K ρ mh H) {v : V} (h : Rep K ρ H mv v) : Q v H := P v H ρ R h .refl
theorem Post.after (P : Post K ρ mh H mv mh' Q) (S : Stp ρ mh H ρ1 m1 H1) : Post K ρ1 m1 H1 mv mh' Q := fun v H' ρ' a b c => P v H' ρ' a b (S.trans c)
theorem lineM_le : lineM ≤ sizeLine := by rw [sizeLine_eq]; decide
theorem Post.newL {xs : List MV} {vs : List V} (P : Post K ρ mh H (.ref mh.length) (mh ++ [.lst xs]) Q) (R : RepH K ρ mh H) (h : Reps K ρ H xs vs) {p : Addr} (hn : H p = none) : Q (.ref p) (upd H p (.lst vs)) := by
  obtain ⟨a, b, c⟩ := R.pushL hn h
  exact P _ _ _ a c b
theorem Post.newT {xs : List MV} {vs : List V} (P : Post K ρ mh H (.tup xs) mh Q) (R : RepH K ρ mh H) (h : Reps K ρ H xs vs) {p : Addr} (hn : H p = none) : Q (.ref p) (upd H p (.tup vs)) := by
  obtain ⟨a, b, c⟩ := R.tupl hn h
  exact P _ _ _ a c b
/-! ### trees -/
mutual
theorem dV_dp (f : Nat → Option PyData) (hf : ∀ a p d, ρ[a]? = some p → f a = some d → Dp K H (.ref p) d) : ∀ (x : MV) (v : V) (d : PyData), Rep K ρ H x v → dV f x = some d → Dp K H v d
  | .non, _, _, h, e => by cases h; simp [dV] at e; subst e; exact .non
  | .bl _, _, _, h, e => by cases h; simp [dV] at e; subst e; exact .bl _
  | .int _, _, _, h, e => by cases h; simp [dV] at e; subst e; exact .int _
  | .str _, _, _, h, e => by cases h; simp [dV] at e; subst e; exact .str _
  | .ref a, _, _, h, e => by cases h with | ref r => exact hf a _ _ r (by simpa [dV] using e)
  | .tup xs, _, _, h, e => by
    cases h with
    | tup s r =>
      simp only [dV] at e
      cases q : dVs f xs with
      | none => rw [q] at e; cases e
      | some ds => rw [q] at e; cases e; exact .tup s (dVs_dp f hf xs _ ds r q)
theorem dVs_dp (f : Nat → Option PyData) (hf : ∀ a p d, ρ[a]? = some p → f a = some d → Dp K H (.ref p) d) : ∀ (xs : List MV) (vs : List V) (ds : List PyData), Reps K ρ H xs vs → dVs f xs = some ds → DpAll K H vs ds
  | [], _, _, h, e => by cases h; simp [dVs] at e; subst e; exact .nil
  | x :: xs, _, _, h, e => by
    cases h with
    | cons a b =>
      simp only [dVs] at e
      split at e
      · cases e; exact .cons (dV_dp f hf x _ _ a (by assumption)) (dVs_dp f hf xs _ _ b (by assumption))
      · cases e
end
theorem snapR_dp (R : RepH K ρ mh H) : ∀ (n : Nat) (a : Nat) (p : Addr) (d : PyData), ρ[a]? = some p → snapR mh n a = some d → Dp K H (.ref p) d
  | 0, _, _, _, _, e => by simp [snapR] at e
  | n + 1, a, p, d, h, e => by
    simp only [snapR] at e
    have go : ∀ xs, lsts mh a = some xs → (dVs (snapR mh n) xs).map PyData.list = some d → Dp K H (.ref p) d := fun xs hx e => by
      obtain ⟨vs, h1, h2⟩ := R.lsts h hx
      cases q : dVs (snapR mh n) xs with
      | none => rw [q] at e; cases e
      | some ds => rw [q] at e; cases e; exact .lst h1 (dVs_dp _ (snapR_dp R n) xs _ ds h2 q)
    split at e
    · exact go _ (by unfold lsts; rw [‹mh[a]? = _›]) e
    · exact go _ (by unfold lsts; rw [‹mh[a]? = _›]) e
    · cases e
theorem snap_dp (R : RepH K ρ mh H) {x : MV} {v : V} {d : PyData} (h : Rep K ρ H x v) (e : snap mh x = some d) : Dp K H v d := dV_dp _ (snapR_dp R 6) x v d h e
theorem dV_flat {f g : Nat → Option PyData} {x : MV} (h : flatM x = true) : dV f x = dV g x := by cases x <;> simp_all [flatM, dV]
theorem flat_rep {x : MV} {v : V} (h : Rep K ρ H x v) (e : flatM x = true) : flatV v = true := by cases h <;> first | rfl | simp [flatM] at e
theorem eqF_rep {x y : MV} {v w : V} (h : Rep K ρ H x v) (g : Rep K ρ H y w) (e : flatM x = true) (e' : flatM y = true) : eqV v w = eqF x y := by
  cases h <;> cases g <;> simp [flatM] at e e' <;> simp [eqF, snap, dV, eqV, PyData.eqv, V.int.injEq]
end

section
variable {X : Cx} {K : PySem.W.Frag}
/-- a truth among numbers, before the sign -/
theorem op_add_bi : OpR X (binaryOp .Add) (fun x y H Q => ∃ i j, x = .bl i ∧ y = .int j ∧ Q (.int (cond i 1 0 + j)) H) := by
  intro pins s σ H x y v u Q I rx ry h
  obtain ⟨i, j, rfl, rfl, q⟩ := h
  cases rx
  obtain ⟨t, rfl⟩ := ry
  have e : (if i = true then (1 : Int) else 0) = cond i 1 0 := by cases i <;> rfl
  exact PySem.IntBool.add_bool_int (by rw [e]; exact ⟨.int _, H, I.tok _, ⟨_, rfl⟩, q⟩)
theorem op_sub_bi : OpR X (binaryOp .Sub) (fun x y H Q => ∃ i j, x = .bl i ∧ y = .int j ∧ Q (.int (cond i 1 0 - j)) H) := by
  intro pins s σ H x y v u Q I rx ry h
  obtain ⟨i, j, rfl, rfl, q⟩ := h
  cases rx
  obtain ⟨t, rfl⟩ := ry
  have e : (if i = true then (1 : Int) else 0) = cond i 1 0 := by cases i <;> rfl
  exact PySem.IntBool.sub_bool_int (by rw [e]; exact ⟨.int _, H, I.tok _, ⟨_, rfl⟩, q⟩)
theorem tuple_mul1 (l : Addr) (items : Array Value) (n : Nat) (dd : Option Addr) (sl : Array (Option Value)) (u : Tok) :
    Meets (Builtin.«tuple.__mul__» ⟨[.ref l, .int 1 u], []⟩) (fun _ R s => s.heap.get? l = some { cls := .type "tuple", dict := dd, data := .seq items n, slots := sl } ∧ R (.ok (.ret (Value.ref l))) s) :=
  .of_wp fun prog w A R s h => by
    obtain ⟨hp, g, d, tk, os⟩ := s
    obtain ⟨hl, h⟩ := h
    have f1 := AutoSeq1.idx_int
    have c1 : (items.isEmpty || (1 : Int) == 1) = true := by simp
    wp_walk using wpAny_loadPart' hl
    repeat (first
      | (refine wpAny_ite_false (decide_eq_false (by decide)) ?_; wp_walk using wpAny_loadPart' hl)
      | (refine wpAny_ite_true (decide_eq_true (by rw [c1])) ?_; wp_walk using wpAny_loadPart' hl))
    exact ⟨_, rfl, h⟩
/-- t * 1 is t -/
theorem op_repT1 : OpR X (binaryOp .Mult) (fun x y H Q => ∃ l xs, x = .ref l ∧ y = .int 1 ∧ SqT X.K H l xs ∧ Q (.ref l) H) := by
  intro pins s σ H x y v u Q I rx ry h
  obtain ⟨l, xs, rfl, rfl, hT, q⟩ := h
  cases rx
  obtain ⟨t, rfl⟩ := ry
  obtain ⟨its, r, ⟨⟨cls, dd, data, sl⟩, ho, hc, n, hd⟩, hs⟩ := I.tuple hT
  simp only at hc hd
  subst hc hd
  refine wpAny_binaryOp_repeat_ref (T := "tuple") (U := "int") (by decide) ⟨_, ho, rfl⟩ (fun s' => typeIs_int s' 1 t) noFill_tuple_mul F.fills_int_mul F.slot_int_rmul repeat_tuple F.slot_int_index.lookup
    (call_meets F.slot_int_rmul (typeIs_int s 1 t) F.entry_int_rmul (F.args_int_rmul_2 _ _) (int_rmul_tuple 1 t l its.toArray n dd sl)
      ⟨ho, rfl, ⟨_, ho, rfl⟩, call_meets F.slot_tuple_mul ⟨_, ho, rfl⟩ F.entry_tuple_mul (F.args_tuple_mul_2 _ _) (tuple_mul1 l its.toArray n dd sl t) ⟨ho, ?_⟩⟩)
  exact ⟨.ref l, H, I, rfl, q⟩
/-- z * 0, z * 1 -/
theorem op_mul_str1 : OpR X (binaryOp .Mult) (fun x y H Q => ∃ (z : Str) (k : Int), x = .str z ∧ y = .int k ∧ (k = 0 ∨ k = 1) ∧ Q (.str (mul01 z k)) H) := by
  intro pins s σ H x y v u Q I rx ry h
  obtain ⟨z, k, rfl, rfl, hk, q⟩ := h
  obtain ⟨t, rfl⟩ := rx
  obtain ⟨t', rfl⟩ := ry
  refine PySem.P.mul_str (by rcases hk with rfl | rfl <;> rfl) (fun h1 h2 => ?_) (fun h1 h2 => ?_) ?_
  · rcases hk with rfl | rfl
    · exact absurd (by decide) h1
    · simp at h2
  · rcases hk with rfl | rfl
    · exact absurd (by decide) h1
    · simp at h2
  · rcases hk with rfl | rfl
    · rw [if_pos (by decide)]
      exact ⟨by decide, .str _, H, I.tok _, ⟨_, rfl⟩, q⟩
    · rw [if_neg (by decide), if_pos (by simp)]
      exact ⟨.str z, H, I, ⟨_, rfl⟩, q⟩
theorem binS {op : Operator} {mx my mv : MV} {mh mh' : MH} (e : binM op mx my mh = .ok mv mh') :
    ∃ r, OpR X (binaryOp op) r ∧ ∀ ρ H x y, RepH X.K ρ mh H → Rep X.K ρ H mx x → Rep X.K ρ H my y → ∀ Q, Post X.K ρ mh H mv mh' Q → r x y H Q := by
  have hl := lineM_le
  unfold binM at e
  split at e
  · cases e; exact ⟨_, op_add, fun ρ H x y R hx hy Q P => by cases hx; cases hy; exact ⟨_, _, rfl, rfl, P.same R (.int _)⟩⟩
  · split at e
    · cases e; exact ⟨_, op_add_str, fun ρ H x y R hx hy Q P => by cases hx; cases hy; exact ⟨_, _, rfl, rfl, by omega, P.same R (.str _)⟩⟩
    · cases e
  · split at e
    · cases e
      refine ⟨_, op_catA, fun ρ H x y R hx hy Q P => ?_⟩
      cases hx with
      | tup s1 r1 =>
        cases hy with
        | tup s2 r2 =>
          have l1 := r1.length; have l2 := r2.length
          refine ⟨_, _, _, _, rfl, rfl, s1, s2, by omega, fun z => ?_, fun _ z => ?_, fun _ _ p hn => P.newT R (r1.append r2) hn⟩
          · subst z; cases r1; exact P.same R (.tup s2 (by simpa using r2))
          · subst z; cases r2; exact P.same R (.tup s1 (by simpa using r1))
    · cases e
  · split at e
    · split at e
      · cases e
        rename_i a b _ _ xs ys ea eb hle
        refine ⟨_, op_cat, fun ρ H x y R hx hy Q P => ?_⟩
        cases hx with
        | ref h1 =>
          cases hy with
          | ref h2 =>
            obtain ⟨vs, f1, r1⟩ := R.lst h1 ea
            obtain ⟨ws, f2, r2⟩ := R.lst h2 eb
            have l1 := r1.length; have l2 := r2.length
            exact ⟨_, _, _, _, rfl, rfl, f1, f2, by omega, fun p hn => P.newL R (r1.append r2) hn⟩
      · cases e
    · cases e
  · cases e; exact ⟨_, op_sub, fun ρ H x y R hx hy Q P => by cases hx; cases hy; exact ⟨_, _, rfl, rfl, P.same R (.int _)⟩⟩
  · split at e
    · cases e; exact ⟨_, op_mul, fun ρ H x y R hx hy Q P => by cases hx; cases hy; exact ⟨_, _, rfl, rfl, (by unfold CMul; omega), P.same R (.int _)⟩⟩
    · cases e
  · split at e
    · split at e
      · cases e
        rename_i a k _ xs ea hc
        refine ⟨_, op_rep, fun ρ H x y R hx hy Q P => ?_⟩
        cases hx with
        | ref h1 =>
          cases hy
          obtain ⟨vs, f1, r1⟩ := R.lst h1 ea
          have l1 := r1.length
          exact ⟨_, _, _, rfl, rfl, f1, hc.1, hc.2.1, (by rw [← l1]; omega), fun p hn => P.newL R (r1.flatRep _) hn⟩
      · cases e
    · cases e
  · split at e
    · cases e
      rename_i hc
      refine ⟨_, op_repT, fun ρ H x y R hx hy Q P => ?_⟩
      cases hx with
      | tup s1 r1 =>
        cases hy
        have l1 := r1.length
        exact ⟨_, _, _, rfl, rfl, s1, (fun z => by subst z; cases r1; exact hc.2.2.2 rfl), hc.1, hc.2.1, by omega, fun p hn => P.newT R (r1.flatRep _) hn⟩
    · split at e
      · cases e
        rename_i hk
        subst hk
        refine ⟨_, op_repT1, fun ρ H x y R hx hy Q P => ?_⟩
        cases hx with
        | tup s1 r1 =>
          cases hy
          exact ⟨_, _, rfl, rfl, s1, P.same R (.tup s1 r1)⟩
      · cases e
  · split at e
    · cases e
      rename_i hc
      exact ⟨_, op_fdiv, fun ρ H x y R hx hy Q P => by cases hx; cases hy; exact ⟨_, _, rfl, rfl, hc, P.same R (.int _)⟩⟩
    · cases e
  · split at e
    · cases e
      rename_i hc
      exact ⟨_, op_mod, fun ρ H x y R hx hy Q P => by cases hx; cases hy; exact ⟨_, _, rfl, rfl, hc, P.same R (.int _)⟩⟩
    · cases e
  · split at e
    · cases e
      rename_i hc
      exact ⟨_, op_pow, fun ρ H x y R hx hy Q P => by cases hx; cases hy; exact ⟨_, _, rfl, rfl, hc, P.same R (.int _)⟩⟩
    · cases e
  · split at e
    · cases e
      rename_i hc
      exact ⟨_, op_shl, fun ρ H x y R hx hy Q P => by cases hx; cases hy; exact ⟨_, _, rfl, rfl, hc, P.same R (.int _)⟩⟩
    · cases e
  · split at e
    · cases e
      rename_i hc
      exact ⟨_, op_shr, fun ρ H x y R hx hy Q P => by cases hx; cases hy; exact ⟨_, _, rfl, rfl, hc, P.same R (.int _)⟩⟩
    · cases e
  · cases e; exact ⟨_, op_and, fun ρ H x y R hx hy Q P => by cases hx; cases hy; exact ⟨_, _, rfl, rfl, P.same R (.int _)⟩⟩
  · cases e; exact ⟨_, op_or, fun ρ H x y R hx hy Q P => by cases hx; cases hy; exact ⟨_, _, rfl, rfl, P.same R (.int _)⟩⟩
  · cases e; exact ⟨_, op_xor, fun ρ H x y R hx hy Q P => by cases hx; cases hy; exact ⟨_, _, rfl, rfl, P.same R (.int _)⟩⟩
  · cases e; exact ⟨_, op_add_bi, fun ρ H x y R hx hy Q P => by cases hx; cases hy; exact ⟨_, _, rfl, rfl, P.same R (.int _)⟩⟩
  · cases e; exact ⟨_, op_sub_bi, fun ρ H x y R hx hy Q P => by cases hx; cases hy; exact ⟨_, _, rfl, rfl, P.same R (.int _)⟩⟩
  · split at e
    · cases e
      rename_i hk
      exact ⟨_, op_mul_str1, fun ρ H x y R hx hy Q P => by cases hx; cases hy; exact ⟨_, _, rfl, rfl, hk, P.same R (.str _)⟩⟩
    · cases e
  · cases e
end
end Mn

set_option maxHeartbeats 4000000
/-! Ops2: comparisons, truth, subscripts, slices, stores. -/
namespace Mn
open PySem PySem.Spec PyProof.Rows L2
section
variable {K : PySem.W.Frag} {ρ : List Addr} {mh : MH} {H : Hp}
theorem anyF {x : MV} {v : V} (h : Rep K ρ H x v) (e : flatM x = true) : ∀ {ys : List MV} {vs : List V}, Reps K ρ H ys vs → ys.all flatM = true → vs.all flatV = true ∧ inV v vs = ys.any fun z => eqF z x
  | [], _, r, _ => by cases r; exact ⟨rfl, rfl⟩
  | y :: ys, _, r, q => by
    cases r with
    | cons a b =>
      simp only [List.all_cons, Bool.and_eq_true] at q
      obtain ⟨h1, h2⟩ := anyF h e b q.2
      refine ⟨by simp only [List.all_cons, Bool.and_eq_true]; exact ⟨flat_rep a q.1, h1⟩, ?_⟩
      unfold inV at h2 ⊢
      rw [List.any_cons, List.any_cons, h2, eqF_rep a h q.1 e]
theorem getK_rep {k : Key} {xs : List (Key × MV)} {vs : List (Key × V)} (h : KReps K ρ H xs vs) : (∀ m, getK k xs = some m → ∃ v, valV vs k = some v ∧ Rep K ρ H m v) ∧ (getK k xs = none → valV vs k = none) := by
  induction h with
  | nil => exact ⟨fun m e => by simp [getK] at e, fun _ => rfl⟩
  | @cons j x v xs vs a b ih =>
    by_cases e : j = k
    · subst e
      refine ⟨fun m q => ?_, fun q => ?_⟩
      · simp [getK] at q; subst q; exact ⟨v, by simp [valV], a⟩
      · simp [getK] at q
    · have e1 : getK k ((j, x) :: xs) = getK k xs := by simp [getK, e]
      have e2 : valV ((j, v) :: vs) k = valV vs k := by simp [valV, e]
      rw [e1, e2]; exact ih
theorem putK_rep {k : Key} {x : MV} {v : V} (r : Rep K ρ H x v) {xs : List (Key × MV)} {vs : List (Key × V)} (h : KReps K ρ H xs vs) : KReps K ρ H (Mn.putK k x xs) (L2.putK vs k v) := by
  have ha : (xs.any fun kv => decide (kv.1 = k)) = vs.any fun kv => decide (kv.1 = k) := by
    induction h with
    | nil => rfl
    | cons _ _ ih => simp [ih]
  unfold Mn.putK L2.putK
  rw [ha]
  split
  · rename_i hh
    clear ha hh
    induction h with
    | nil => exact .nil
    | @cons j y u xs vs a b ih =>
      simp only [List.map_cons]
      by_cases e : j = k
      · simp only [e, if_true]; exact .cons r ih
      · simp only [e, if_false]; exact .cons a ih
  · rename_i hh
    clear ha hh
    induction h with
    | nil => exact .cons r .nil
    | cons a _ ih => exact .cons a ih
theorem keyOf_rep {x : MV} {v : V} {k : Key} (h : Rep K ρ H x v) (e : keyOf x = some k) : v = kV k := by
  cases h <;> simp [keyOf] at e <;> subst e <;> rfl
theorem truV (R : RepH K ρ mh H) {x : MV} {v : V} {b : Bool} (h : Rep K ρ H x v) (e : truth mh x = some b) : TruV K v H b := by
  cases h with
  | non => simp [truth] at e; subst e; rfl
  | bl c => simp [truth] at e; subst e; rfl
  | int i => simp [truth] at e; subst e; rfl
  | str s =>
    simp only [truth] at e
    split at e
    · cases e; refine ⟨Nat.le_trans (by assumption) lineM_le, ?_⟩; cases q : s.length <;> simp; omega
    · cases e
  | tup s r => simp only [truth, Option.some.injEq] at e; subst e; refine .inr (.inl ⟨_, s, ?_⟩); cases r <;> rfl
  | ref h =>
    simp only [truth] at e
    split at e
    · cases e; obtain ⟨vs, h1, h2⟩ := R.lst h (by assumption); exact .inl ⟨vs, .of h1, by cases h2 <;> rfl⟩
    · cases e; obtain ⟨vs, h1, h2⟩ := R.obj _ _ _ h (by assumption); exact .inl ⟨vs, h1.seq, by cases h2 <;> rfl⟩
    · cases e; obtain ⟨vs, h1, h2⟩ := R.dct h (by assumption); exact .inr (.inr ⟨vs, h1, by cases h2 <;> rfl⟩)
    · cases e
end
section
variable {X : Cx}
/-- in and not in of a dict, by values -/
theorem op_in_dict (hu : X.A.units + 1 < cLine) : OpR X (compareOp .In) (fun y x H Q => ∃ a o, x = .ref a ∧ DGet H a y o ∧ Q (.bl o.isSome) H) := by
  intro pins s σ H y x iv u Q I ry rx q
  obtain ⟨a, ov, ex, g, q2⟩ := q
  subst ex
  obtain rfl : u = Value.ref a := rx
  exact d_in hu I g ry fun s3 I3 => ⟨.bl ov.isSome, H, I3, rfl, q2⟩
theorem op_notIn_dict (hu : X.A.units + 1 < cLine) : OpR X (compareOp .NotIn) (fun y x H Q => ∃ a o, x = .ref a ∧ DGet H a y o ∧ Q (.bl (!o.isSome)) H) := by
  intro pins s σ H y x iv u Q I ry rx q
  obtain ⟨a, ov, ex, g, q2⟩ := q
  subst ex
  obtain rfl : u = Value.ref a := rx
  exact d_notIn hu I g ry fun s3 I3 => ⟨.bl (!ov.isSome), H, I3, rfl, q2⟩
def CmpS (X : Cx) (op : CmpOp) (mx my : MV) (mh : MH) (b : Bool) : Prop :=
  ∃ r, OpR X (compareOp op) r ∧ ∀ ρ H x y, RepH X.K ρ mh H → Rep X.K ρ H mx x → Rep X.K ρ H my y → ∀ Q : VK, Q (.bl b) H → r x y H Q
theorem eqS (hu : X.A.units + 64 < cLine) {mx my : MV} {mh : MH} {b : Bool} (e : eqM mh mx my = some b) : CmpS X .Eq mx my mh b := by
  unfold eqM at e
  split at e
  · rename_i s1 s2 h1 h2
    have e1 : mx = .str s1 := by cases mx <;> simp [strOf] at h1; rw [h1]
    have e2 : my = .str s2 := by cases my <;> simp [strOf] at h2; rw [h2]
    subst e1 e2
    cases e
    refine ⟨_, op_eq, fun ρ H x y R hx hy Q q => ?_⟩
    cases hx
    cases hy
    exact ⟨rfl, by simpa using q⟩
  · unfold eqD at e
    split at e
    · split at e
      · cases e
        rename_i d f h1 h2 h3
        rw [Bool.and_eq_true] at h3
        exact ⟨_, op_eqD hu, fun ρ H x y R hx hy Q q => ⟨d, f, snap_dp R hx h1, snap_dp R hy h2, h3.1, h3.2, q⟩⟩
      · cases e
    · cases e
theorem neS (hu : X.A.units + 64 < cLine) {mx my : MV} {mh : MH} {b : Bool} (e : eqM mh mx my = some b) : CmpS X .NotEq mx my mh (!b) := by
  unfold eqM at e
  split at e
  · rename_i s1 s2 h1 h2
    have e1 : mx = .str s1 := by cases mx <;> simp [strOf] at h1; rw [h1]
    have e2 : my = .str s2 := by cases my <;> simp [strOf] at h2; rw [h2]
    subst e1 e2
    cases e
    refine ⟨_, op_ne, fun ρ H x y R hx hy Q q => ?_⟩
    cases hx
    cases hy
    exact ⟨rfl, by simpa using q⟩
  · unfold eqD at e
    split at e
    · split at e
      · cases e
        rename_i d f h1 h2 h3
        rw [Bool.and_eq_true] at h3
        exact ⟨_, op_neD hu, fun ρ H x y R hx hy Q q => ⟨d, f, snap_dp R hx h1, snap_dp R hy h2, h3.1, h3.2, q⟩⟩
      · cases e
    · cases e
theorem inS (hu : X.A.units + 65 < cLine) {mx my : MV} {mh : MH} {b : Bool} (e : inM mh mx my = some b) : CmpS X .In mx my mh b ∧ CmpS X .NotIn mx my mh (!b) := by
  have hu1 : X.A.units + 1 < cLine := by omega
  unfold inM at e
  split at e
  · split at e
    · cases e
      rename_i ys hc
      rw [Bool.and_eq_true] at hc
      refine ⟨⟨_, op_in_seq, fun ρ H x y R hx hy Q q => ?_⟩, ⟨_, op_notIn_seq, fun ρ H x y R hx hy Q q => ?_⟩⟩
      all_goals
        cases hy with
        | tup s r =>
          obtain ⟨h1, h2⟩ := anyF hx hc.1 r hc.2
          refine ⟨_, _, rfl, .inr s, flat_rep hx hc.1, h1, ?_⟩
          simp only [h2, Bool.false_eq_true, if_false, if_true]; exact q
    · cases e
  · split at e
    · rename_i a _ kvs hd
      cases hk : keyOf mx with
      | none => rw [hk] at e; cases e
      | some k =>
        rw [hk] at e; cases e
        refine ⟨⟨_, op_in_dict hu1, fun ρ H x y R hx hy Q q => ?_⟩, ⟨_, op_notIn_dict hu1, fun ρ H x y R hx hy Q q => ?_⟩⟩
        all_goals
          cases hy with
          | ref hp =>
            obtain ⟨vs, h1, h2⟩ := R.dct hp hd
            have hv := keyOf_rep hx hk
            subst hv
            refine ⟨_, valV vs k, rfl, .k h1, ?_⟩
            obtain ⟨g1, g2⟩ := getK_rep (k := k) h2
            dsimp only at q
            cases z : getK k kvs with
            | none => rw [g2 z]; rw [z] at q; exact q
            | some m => obtain ⟨v, g, _⟩ := g1 m z; rw [g]; rw [z] at q; exact q
    · split at e
      · rename_i a _ ys hl
        split at e
        · cases e
          rename_i hc
          rw [Bool.and_eq_true] at hc
          refine ⟨⟨_, op_in_seq, fun ρ H x y R hx hy Q q => ?_⟩, ⟨_, op_notIn_seq, fun ρ H x y R hx hy Q q => ?_⟩⟩
          all_goals
            cases hy with
            | ref hp =>
              obtain ⟨vs, s, r⟩ := R.lsts hp hl
              obtain ⟨h1, h2⟩ := anyF hx hc.1 r hc.2
              refine ⟨_, _, rfl, .inl s, flat_rep hx hc.1, h1, ?_⟩
              simp only [h2, Bool.false_eq_true, if_false, if_true]; exact q
        · split at e
          · split at e
            · cases e
              rename_i d ds h1 h2 h3
              rw [Bool.and_eq_true] at h3
              refine ⟨⟨_, op_inD hu, fun ρ H x y R hx hy Q q => ?_⟩, ⟨_, op_notInD hu, fun ρ H x y R hx hy Q q => ?_⟩⟩
              all_goals
                cases hy with
                | ref hp =>
                  obtain ⟨vs, s, r⟩ := R.lsts hp hl
                  exact ⟨d, ds, snap_dp R hx h1, .lst s (dVs_dp _ (snapR_dp R 5) _ _ _ r h2), h3.1, h3.2, q⟩
            · cases e
          · cases e
      · cases e
  · split at e
    · cases e
      refine ⟨⟨_, op_in_str, fun ρ H x y R hx hy Q q => ?_⟩, ⟨_, op_notin_str, fun ρ H x y R hx hy Q q => ?_⟩⟩ <;> (cases hx; cases hy; exact ⟨_, _, rfl, rfl, q⟩)
    · cases e
  · cases e
theorem cmpS (hu : X.A.units + 65 < cLine) {op : CmpOp} {mx my : MV} {mh : MH} {b : Bool} (e : cmpM op mx my mh = some b) : CmpS X op mx my mh b := by
  have mapN : ∀ {o : Option Bool}, o.map (!·) = some b → o = some (!b) := fun {o} h => by cases o <;> simp_all
  cases op
  case Eq => exact eqS (by omega) e
  case NotEq => have := neS (X := X) (by omega) (mapN e); simpa using this
  case In => exact (inS hu e).1
  case NotIn => have := (inS hu (mapN e)).2; simpa using this
  case Lt =>
    simp only [cmpM] at e
    split at e
    · cases e; exact ⟨_, op_lt, fun ρ H x y R hx hy Q q => by cases hx; cases hy; exact ⟨_, _, rfl, rfl, q⟩⟩
    · cases e
  case LtE =>
    simp only [cmpM] at e
    split at e
    · cases e; exact ⟨_, op_le, fun ρ H x y R hx hy Q q => by cases hx; cases hy; exact ⟨_, _, rfl, rfl, q⟩⟩
    · cases e
  case Gt =>
    simp only [cmpM] at e
    split at e
    · cases e; exact ⟨_, op_gt, fun ρ H x y R hx hy Q q => by cases hx; cases hy; exact ⟨_, _, rfl, rfl, q⟩⟩
    · cases e
  case GtE =>
    simp only [cmpM] at e
    split at e
    · cases e; exact ⟨_, op_ge, fun ρ H x y R hx hy Q q => by cases hx; cases hy; exact ⟨_, _, rfl, rfl, q⟩⟩
    · cases e
  case Is =>
    simp only [cmpM] at e
    split at e
    · cases e
      refine ⟨_, op_isN, fun ρ H x y R hx hy Q q => ?_⟩
      cases hy
      refine ⟨rfl, ?_⟩
      have : decide (x = V.non) = decide (mx = MV.non) := by cases hx <;> simp
      rw [this]; exact q
    · split at e
      · cases e
        exact ⟨_, op_is_bl, fun ρ H x y R hx hy Q q => by cases hx; cases hy; exact ⟨_, _, rfl, rfl, q⟩⟩
      · cases e
    · cases e
  case IsNot =>
    simp only [cmpM] at e
    split at e
    · cases e
      refine ⟨_, op_notN, fun ρ H x y R hx hy Q q => ?_⟩
      cases hy
      refine ⟨rfl, ?_⟩
      have : decide (x = V.non) = decide (mx = MV.non) := by cases hx <;> simp
      rw [this]; exact q
    · split at e
      · cases e
        exact ⟨_, op_isnot_bl, fun ρ H x y R hx hy Q q => by cases hx; cases hy; exact ⟨_, _, rfl, rfl, q⟩⟩
      · cases e
    · cases e
/-! ### subscripts -/
theorem atI_rep {K : PySem.W.Frag} {ρ : List Addr} {H : Hp} {xs : List MV} {vs : List V} {i : Int} {m : MV} (h : Reps K ρ H xs vs) (e : atI xs i = some m) : ∃ v, atI vs i = some v ∧ Rep K ρ H m v := by
  unfold atI at e ⊢
  rw [← h.length]
  cases q : ixN xs.length i with
  | none => rw [q] at e; cases e
  | some j => rw [q] at e; exact h.get e
theorem ixS {mx my mv : MV} {mh mh' : MH} (e : ixM mx my mh = .ok mv mh') (nd : ∀ a kvs, mx = .ref a → mh[a]? ≠ some (.dct kvs)) :
    mh' = mh ∧ ∀ ρ H x y, RepH X.K ρ mh H → Rep X.K ρ H mx x → Rep X.K ρ H my y → ∀ Q : VK, (∀ v, Rep X.K ρ H mv v → Q v H) → rIx X.K x y H Q := by
  have hl := lineM_le
  have oO : ∀ {o : Option MV}, ofO o mh = .ok mv mh' → o = some mv ∧ mh' = mh := fun {o} h => by cases o <;> simp [ofO] at h; exact ⟨by rw [h.1], h.2.symm⟩
  unfold ixM at e
  split at e
  · obtain ⟨e2, rfl⟩ := oO e
    refine ⟨rfl, fun ρ H x y R hx hy Q q => ?_⟩
    cases hx with
    | tup s r =>
      cases hy
      obtain ⟨v, h1, h2⟩ := atI_rep r e2
      exact .inr (.inl ⟨_, _, _, _, rfl, rfl, s, h1, q v h2⟩)
  · split at e
    · rename_i a _ kvs h; exact absurd h (nd a kvs rfl)
    · split at e
      · rename_i a _ xs i hl' 
        obtain ⟨e2, rfl⟩ := oO e
        refine ⟨rfl, fun ρ H x y R hx hy Q q => ?_⟩
        cases hx with
        | ref hp =>
          cases hy
          obtain ⟨vs, s, r⟩ := R.lsts hp (by assumption)
          obtain ⟨v, h1, h2⟩ := atI_rep r e2
          exact .inl ⟨_, _, _, _, rfl, rfl, s, h1, q v h2⟩
      · cases e
  · split at e
    · rename_i z i hz
      obtain ⟨e2, rfl⟩ := oO e
      refine ⟨rfl, fun ρ H x y R hx hy Q q => ?_⟩
      cases hx; cases hy
      cases w : atI z.cps.toList i with
      | none => rw [w] at e2; cases e2
      | some c => rw [w] at e2; cases e2; exact .inr (.inr ⟨z, i, c, rfl, rfl, by omega, w, q _ (.str _)⟩)
    · cases e
  · cases e
theorem ixSd {a : Nat} {kvs : List (Key × MV)} {my mv : MV} {mh mh' : MH} (e : ixM (.ref a) my mh = .ok mv mh') (hd : mh[a]? = some (.dct kvs)) :
    mh' = mh ∧ ∀ ρ H x y, RepH X.K ρ mh H → Rep X.K ρ H (.ref a) x → Rep X.K ρ H my y → ∃ p v, x = .ref p ∧ DGet H p y (some v) ∧ Rep X.K ρ H mv v := by
  simp only [ixM, hd] at e
  split at e
  · rename_i k hk
    cases w : getK k kvs with
    | none => rw [w] at e; simp [ofO] at e
    | some m =>
      rw [w] at e
      simp only [ofO, R.ok.injEq] at e
      obtain ⟨rfl, rfl⟩ := e
      refine ⟨rfl, fun ρ H x y R hx hy => ?_⟩
      cases hx with
      | ref hp =>
        obtain ⟨vs, h1, h2⟩ := R.dct hp hd
        obtain ⟨v, g, r⟩ := (getK_rep h2).1 m w
        have := keyOf_rep hy hk
        subst this
        exact ⟨_, v, rfl, by rw [← g]; exact .k h1, r⟩
  · cases e
/-! ### slices -/
theorem cut_rep {K : PySem.W.Frag} {ρ : List Addr} {H : Hp} {xs : List MV} {vs : List V} (h : Reps K ρ H xs vs) (lo hi : Option Int) : Reps K ρ H (cutM xs lo hi) (cutV vs lo hi) := by
  unfold cutM cutV
  rw [h.length]
  exact (h.drop _).take _
theorem slS {mx mv : MV} {lo hi : Option Int} {mh mh' : MH} (e : slM mx lo hi mh = .ok mv mh') :
    ∃ r, L2.SlR X r ∧ ∀ ρ H x, RepH X.K ρ mh H → Rep X.K ρ H mx x → ∀ Q : VK, Post X.K ρ mh H mv mh' Q → r x lo hi H Q := by
  have hl := lineM_le
  unfold slM at e
  split at e
  · cases e
    rename_i xs
    refine ⟨_, sl_tupA, fun ρ H x R hx Q P => ?_⟩
    cases hx with
    | tup s r =>
      refine ⟨_, _, rfl, s, fun z => ?_, fun _ p hn => P.newT R (cut_rep r lo hi) hn⟩
      refine P.same R ?_
      have h1 : cutM xs lo hi = xs := by
        unfold cutM
        rw [r.length, z.1, z.2, ← r.length]
        simp
      rw [h1]; exact .tup s r
  · split at e
    · cases e
      rename_i a xs hl'
      refine ⟨_, sl_list, fun ρ H x R hx Q P => ?_⟩
      cases hx with
      | ref hp =>
        obtain ⟨vs, s, r⟩ := R.lsts hp hl'
        exact ⟨_, _, rfl, s, fun p hn => P.newL R (cut_rep r lo hi) hn⟩
    · cases e
  · split at e
    · cases e
      exact ⟨_, sl_str, fun ρ H x R hx Q P => by cases hx; exact ⟨_, rfl, by omega, P.same R (.str _)⟩⟩
    · cases e
  · cases e
/-! ### stores -/
theorem setS (hu : X.A.units + 1 < cLine) {mo mi mv : MV} {mh mh' : MH} (e : setM mo mi mv mh = some mh') :
    ∃ t, PSet X t ∧ ∀ ρ H o i v, RepH X.K ρ mh H → Rep X.K ρ H mo o → Rep X.K ρ H mi i → Rep X.K ρ H mv v → ∀ Q : Hp → Prop, (∀ H', RepH X.K ρ mh' H' → Stp ρ mh H ρ mh' H' → Q H') → t o i v H Q := by
  have hl := lineM_le
  unfold setM at e
  split at e
  · rename_i a
    split at e
    · rename_i xs ea
      split at e
      · rename_i i
        cases w : ixN xs.length i with
        | none => rw [w] at e; cases e
        | some j =>
          rw [w] at e
          simp only [Option.bind_some] at e
          split at e
          · cases e
            refine ⟨_, set_list, fun ρ H o i v R ho hi hv Q q => ?_⟩
            cases ho with
            | ref hp =>
              cases hi
              obtain ⟨vs, h1, r⟩ := R.lst hp ea
              obtain ⟨b1, b2⟩ := R.set (o' := .lst (xs.set j mv)) (ho := .lst (vs.set j v)) hp ea rfl rfl (fun H' k e' => ⟨_, e', Reps.mono' (List.prefix_refl _) k _ _ (r.set hv j)⟩)
              exact ⟨_, _, _, _, rfl, rfl, h1, by rw [← r.length]; exact w, q _ b1 b2⟩
          · cases e
      · cases e
    · rename_i kvs ea
      cases hk : keyOf mi with
      | none => rw [hk] at e; cases e
      | some k =>
        rw [hk] at e
        simp only [Option.bind_some] at e
        split at e
        · cases e
          refine ⟨_, set_dict hu, fun ρ H o i v R ho hi hv Q q => ?_⟩
          cases ho with
          | ref hp =>
            obtain ⟨vs, h1, r⟩ := R.dct hp ea
            have := keyOf_rep hi hk
            subst this
            have ln := r.length
            obtain ⟨b1, b2⟩ := R.set (o' := .dct (Mn.putK k mv kvs)) (ho := .dK (L2.putK vs k v)) hp ea rfl rfl (fun H' k' e' => ⟨_, e', KReps.mono' (List.prefix_refl _) k' (putK_rep hv r)⟩)
            exact ⟨_, _, rfl, .k h1 (by omega), q _ b1 b2⟩
        · cases e
    · cases e
  · cases e
end
end Mn

set_option maxHeartbeats 4000000
/-! Ops3: built-in functions, methods, isinstance. -/
namespace Mn
open PySem PySem.Spec PyProof.Rows L2
/-- the name, and the value behind it -/
def Bi.nm : Bi → Str
  | .len => "len" | .sum => "sum" | .sorted => "sorted" | .tuple => "tuple" | .list => "list" | .int => "int" | .str => "str" | .repr => "repr" | .all => "all" | .any => "any" | .min => "min" | .max => "max" | .abs => "abs"
def Bi.val : Bi → Value
  | .len => .builtin "len" | .sum => .builtin "sum" | .sorted => .builtin "sorted" | .tuple => .type "tuple" | .list => .type "list" | .int => .type "int" | .str => .type "str" | .repr => .builtin "repr" | .all => .builtin "all" | .any => .builtin "any"
  | .min => .builtin "min" | .max => .builtin "max" | .abs => .builtin "abs"
def Ty.nm : Ty → Str
  | .int => "int" | .bool => "bool" | .str => "str" | .tuple => "tuple" | .list => "list" | .dict => "dict"
def Ty.tn : Ty → String
  | .int => "int" | .bool => "bool" | .str => "str" | .tuple => "tuple" | .list => "list" | .dict => "dict"
section
variable {X : Cx}
/-- repr of any data -/
theorem call_reprD (hg : X.A.guards = some []) (hu : X.A.units + 100 < cLine) : CallR X (.builtin "repr") (fun xs H Q => ∃ x d s, xs = [x] ∧ Dp X.K H x d ∧ reprD d = some s ∧ Q (.str s) H) := by
  intro pins s σ H xs us Q I r h
  obtain ⟨x, d, z, rfl, hd, hz, q⟩ := h
  obtain ⟨u, rfl, hr⟩ := vals1 r
  unfold reprD at hz
  split at hz
  · rename_i hc
    cases hz
    obtain ⟨h1, h2, h3, h4⟩ := hc
    have hl := lineM_le
    obtain ⟨as, rd⟩ := Dp.reads I d x u hd hr
    have fin : ∀ (h' : Heap) (t : Tok) (tk : Nat), (∀ b o, s.heap.get? b = some o → h'.get? b = some o) → EP X pins σ Q (.str d.shown t) { s with heap := h', toks := tk } := fun h' t tk k =>
      ⟨.str d.shown, H, I.kept (t' := tk) k, ⟨t, rfl⟩, q⟩
    cases x with
    | non => cases hd; cases hr; exact PySem.P.repr_of_none (fin s.heap _ _ fun _ _ e => e)
    | bl b => cases hd; cases hr; exact PySem.P.repr_of_bool (fin s.heap _ _ fun _ _ e => e)
    | int i => cases hd; obtain ⟨t, rfl⟩ := hr; exact PySem.P.repr_of_int (by simpa [PyData.showable] using h1) (fin s.heap _ _ fun _ _ e => e)
    | str y => cases hd; obtain ⟨t, rfl⟩ := hr; exact PySem.P.repr_of_str (fin s.heap _ _ fun _ _ e => e) (Nat.le_trans h4 hl)
    | ref a => cases hr; exact repr_of_reads' rd h1 (fun z => by rw [h2] at z; cases z) hg (by omega) (fun _ _ e => e) (fun h' t tk k => fin h' t tk k) (by omega)
    | byt _ => cases hd
    | flt _ => cases hd
    | ty _ => cases hd
  · cases hz
theorem lsts_some {mh : MH} {a : Nat} {f : List MV → Option α} {b : α} (e : (lsts mh a).bind f = some b) : ∃ xs, lsts mh a = some xs ∧ f xs = some b := by
  cases h : lsts mh a with
  | none => rw [h] at e; cases e
  | some xs => rw [h] at e; exact ⟨xs, rfl, e⟩
/-- min(xs), max(xs) of a list or a tuple of ints -/
def rMinS (K : PySem.W.Frag) (f : Int → List Int → Int) : List V → Hp → VK → Prop := fun vs H Q => ∃ (a : Addr) (n : Int) (ns : List Int), vs = [V.ref a] ∧ (SqL K H a ((n :: ns).map V.int) ∨ SqT K H a ((n :: ns).map V.int)) ∧ Q (.int (f n ns)) H
theorem cr_minS (hc : X.calm = true) (hu : X.A.units + 100 < cLine) : CallR X (.builtin "min") (rMinS X.K PySem.W.minOf) := by
  intro pins s σ H vs us Q I r h
  obtain ⟨a, n, ns, rfl, hs, q⟩ := h
  rw [Vals.ref1 r]
  have hu' : X.A.units + 1 + PySem.W.Datum.depth Int < cLine := by show X.A.units + 1 + 0 < cLine; omega
  have fin : ∀ (v : Value) (h' : Heap) (tk : Nat), PySem.W.Holds h' v (PySem.W.minOf n ns) → (∀ b o, s.heap.get? b = some o → h'.get? b = some o) → EP X pins σ Q v { s with heap := h', toks := tk } := fun v h' tk hv hk => by
    obtain ⟨as, rd⟩ := hv
    cases rd with
    | int _ t => exact ⟨.int _, H, I.kept hk, ⟨t, rfl⟩, q⟩
  rcases hs with hs | hs
  · obtain ⟨its, rv, hl, _⟩ := I.list hs
    exact PySem.W.min_list_datum (I.ok.hd hc) hl.isList (PySem.W.HoldAll.of_ints (by simpa using rv.ints)) hu' fun i v h' tk _ hv hk => fin v h' tk hv hk
  · obtain ⟨its, rv, hl, _⟩ := I.tuple hs
    exact PySem.W.min_tuple_datum (I.ok.hd hc) hl (PySem.W.HoldAll.of_ints (by simpa using rv.ints)) hu' fun i v h' tk _ hv hk => fin v h' tk hv hk
theorem cr_maxS (hc : X.calm = true) (hu : X.A.units + 100 < cLine) : CallR X (.builtin "max") (rMinS X.K PySem.W.maxOf) := by
  intro pins s σ H vs us Q I r h
  obtain ⟨a, n, ns, rfl, hs, q⟩ := h
  rw [Vals.ref1 r]
  have hu' : X.A.units + 1 + PySem.W.Datum.depth Int < cLine := by show X.A.units + 1 + 0 < cLine; omega
  have fin : ∀ (v : Value) (h' : Heap) (tk : Nat), PySem.W.Holds h' v (PySem.W.maxOf n ns) → (∀ b o, s.heap.get? b = some o → h'.get? b = some o) → EP X pins σ Q v { s with heap := h', toks := tk } := fun v h' tk hv hk => by
    obtain ⟨as, rd⟩ := hv
    cases rd with
    | int _ t => exact ⟨.int _, H, I.kept hk, ⟨t, rfl⟩, q⟩
  rcases hs with hs | hs
  · obtain ⟨its, rv, hl, _⟩ := I.list hs
    exact PySem.W.max_list_datum (I.ok.hd hc) hl.isList (PySem.W.HoldAll.of_ints (by simpa using rv.ints)) hu' fun i v h' tk _ hv hk => fin v h' tk hv hk
  · obtain ⟨its, rv, hl, _⟩ := I.tuple hs
    exact PySem.W.max_tuple_datum (I.ok.hd hc) hl (PySem.W.HoldAll.of_ints (by simpa using rv.ints)) hu' fun i v h' tk _ hv hk => fin v h' tk hv hk
theorem intKeys_rep {K : PySem.W.Frag} {ρ : List Addr} {H : Hp} {kvs : List (Key × MV)} {ws : List (Key × V)} (r : KReps K ρ H kvs ws) : ∀ {ns : List Int}, intKeys kvs = some ns → ws.map (·.1) = ns.map Sum.inl := by
  induction r with
  | nil => intro ns e; simp [intKeys] at e; subst e; rfl
  | @cons k x v xs vs a _ ih =>
    intro ns e
    cases k with
    | inr _ => simp [intKeys] at e
    | inl i =>
      simp only [intKeys] at e
      cases q : intKeys xs with
      | none => rw [q] at e; cases e
      | some ms => rw [q] at e; cases e; simp [ih q]
def BltS (X : Cx) (b : Bi) (vs : List MV) (mh : MH) (mv : MV) (mh' : MH) : Prop :=
  ∃ r, CallR X b.val r ∧ ∀ ρ H ws, RepH X.K ρ mh H → Reps X.K ρ H vs ws → ∀ Q : VK, Post X.K ρ mh H mv mh' Q → r ws H Q
theorem Reps.one' {K : PySem.W.Frag} {ρ : List Addr} {H : Hp} {x : MV} {ws : List V} (h : Reps K ρ H [x] ws) : ∃ v, ws = [v] ∧ Rep K ρ H x v := by
  cases h with | cons a b => cases b; exact ⟨_, rfl, a⟩
theorem Reps.two' {K : PySem.W.Frag} {ρ : List Addr} {H : Hp} {x y : MV} {ws : List V} (h : Reps K ρ H [x, y] ws) : ∃ v w, ws = [v, w] ∧ Rep K ρ H x v ∧ Rep K ρ H y w := by
  cases h with | cons a b => obtain ⟨w, rfl, c⟩ := b.one'; exact ⟨_, _, rfl, a, c⟩
/-- str of a truth -/
theorem call_str_bl : CallR X (.type "str") (fun xs H Q => ∃ k, xs = [.bl k] ∧ Q (.str (if k = true then "True" else "False")) H) := by
  intro pins s σ H xs us Q I r h
  obtain ⟨k, rfl, q⟩ := h
  obtain ⟨u, rfl, r1⟩ := vals1 r
  cases r1
  exact PySem.P.str_of_bool ⟨.str _, H, I.tok _, ⟨_, rfl⟩, q⟩
theorem bltS {b : Bi} (hc0 : b ≠ .len → X.calm = true) (hg : X.A.guards = some []) (hu : X.A.units + 100 < cLine) {vs : List MV} {mv : MV} {mh mh' : MH} (e : bltM b vs mh = .ok mv mh') : BltS X b vs mh mv mh' := by
  have hl := lineM_le
  unfold bltM at e
  split at e
  · -- len of a text
    split at e
    · cases e
      refine ⟨_, call_len_str, fun ρ H ws R hx Q P => ?_⟩
      obtain ⟨v, rfl, hv⟩ := hx.one'
      cases hv
      exact ⟨_, rfl, by omega, P.same R (.int _)⟩
    · cases e
  · cases e
    refine ⟨_, call_len_seq, fun ρ H ws R hx Q P => ?_⟩
    obtain ⟨v, rfl, hv⟩ := hx.one'
    cases hv with
    | tup s r => refine ⟨_, _, rfl, .inr s, ?_⟩; rw [← r.length]; exact P.same R (.int _)
  · split at e
    · cases e
      refine ⟨_, call_len_seq, fun ρ H ws R hx Q P => ?_⟩
      obtain ⟨v, rfl, hv⟩ := hx.one'
      cases hv with
      | ref hp => obtain ⟨us, h1, r⟩ := R.lst hp (by assumption); refine ⟨_, _, rfl, .inl (.of h1), ?_⟩; rw [← r.length]; exact P.same R (.int _)
    · cases e
      refine ⟨_, call_len_seq, fun ρ H ws R hx Q P => ?_⟩
      obtain ⟨v, rfl, hv⟩ := hx.one'
      cases hv with
      | ref hp => obtain ⟨us, h1, r⟩ := R.obj _ _ _ hp (by assumption); refine ⟨_, _, rfl, .inl h1.seq, ?_⟩; rw [← r.length]; exact P.same R (.int _)
    · cases e
      refine ⟨_, call_lenD, fun ρ H ws R hx Q P => ?_⟩
      obtain ⟨v, rfl, hv⟩ := hx.one'
      cases hv with
      | ref hp => obtain ⟨us, h1, r⟩ := R.dct hp (by assumption); refine ⟨_, _, rfl, h1, ?_⟩; rw [← r.length]; exact P.same R (.int _)
    · cases e
  · split at e
    · cases e
      obtain ⟨xs, h1, h2⟩ := lsts_some (by assumption)
      refine ⟨_, cr_sum (hc0 (by intro z; cases z)), fun ρ H ws R hx Q P => ?_⟩
      obtain ⟨v, rfl, hv⟩ := hx.one'
      cases hv with
      | ref hp => obtain ⟨us, s, r⟩ := R.lsts hp h1; have := r.ints h2; subst this; exact ⟨_, _, rfl, s, P.same R (.int _)⟩
    · cases e
  · split at e
    · cases e
      obtain ⟨xs, h1, h2⟩ := lsts_some (by assumption)
      refine ⟨_, cr_all (hc0 (by intro z; cases z)), fun ρ H ws R hx Q P => ?_⟩
      obtain ⟨v, rfl, hv⟩ := hx.one'
      cases hv with
      | ref hp => obtain ⟨us, s, r⟩ := R.lsts hp h1; have := r.bls h2; subst this; exact ⟨_, _, rfl, s, P.same R (.bl _)⟩
    · cases e
  · split at e
    · cases e
      obtain ⟨xs, h1, h2⟩ := lsts_some (by assumption)
      refine ⟨_, cr_any (hc0 (by intro z; cases z)), fun ρ H ws R hx Q P => ?_⟩
      obtain ⟨v, rfl, hv⟩ := hx.one'
      cases hv with
      | ref hp => obtain ⟨us, s, r⟩ := R.lsts hp h1; have := r.bls h2; subst this; exact ⟨_, _, rfl, s, P.same R (.bl _)⟩
    · cases e
  · cases e
    refine ⟨_, call_tuple_of, fun ρ H ws R hx Q P => ?_⟩
    obtain ⟨v, rfl, hv⟩ := hx.one'
    cases hv with
    | tup s r => exact ⟨_, _, rfl, .inr ⟨s, P.same R (.tup s r)⟩⟩
  · split at e
    · cases e
      refine ⟨_, call_tuple_of, fun ρ H ws R hx Q P => ?_⟩
      obtain ⟨v, rfl, hv⟩ := hx.one'
      cases hv with
      | ref hp => obtain ⟨us, s, r⟩ := R.lsts hp (by assumption); exact ⟨_, _, rfl, .inl ⟨s, fun l hn => P.newT R r hn⟩⟩
    · cases e
  · split at e
    · cases e
      rename_i v _ xs hs
      refine ⟨_, call_list_of, fun ρ H ws R hx Q P => ?_⟩
      obtain ⟨v, rfl, hv⟩ := hx.one'
      cases hv with
      | tup s r => simp only [seqs, Option.some.injEq] at hs; subst hs; exact ⟨_, _, rfl, .inr s, fun l hn => P.newL R r hn⟩
      | ref hp => obtain ⟨us, s, r⟩ := R.lsts hp hs; exact ⟨_, _, rfl, .inl s, fun l hn => P.newL R r hn⟩
      | _ => simp [seqs] at hs
    · cases e
  · cases e
    refine ⟨_, call_int1, fun ρ H ws R hx Q P => ?_⟩
    obtain ⟨v, rfl, hv⟩ := hx.one'
    cases hv; exact .inl ⟨_, rfl, P.same R (.int _)⟩
  · cases e
    refine ⟨_, call_int1, fun ρ H ws R hx Q P => ?_⟩
    obtain ⟨v, rfl, hv⟩ := hx.one'
    cases hv; exact .inr ⟨_, rfl, P.same R (.int _)⟩
  · split at e
    · cases e
      refine ⟨_, call_str_int, fun ρ H ws R hx Q P => ?_⟩
      obtain ⟨v, rfl, hv⟩ := hx.one'
      cases hv; exact ⟨_, rfl, by assumption, P.same R (.str _)⟩
    · cases e
  · cases e
    refine ⟨_, SkE.call_str_str, fun ρ H ws R hx Q P => ?_⟩
    obtain ⟨v, rfl, hv⟩ := hx.one'
    cases hv; exact ⟨_, rfl, P.same R (.str _)⟩
  · cases e
    refine ⟨_, call_str_bl, fun ρ H ws R hx Q P => ?_⟩
    obtain ⟨v, rfl, hv⟩ := hx.one'
    cases hv; exact ⟨_, rfl, P.same R (.str _)⟩
  · split at e
    · cases e
      rename_i v _ s hs
      cases hd : snap mh v with
      | none => rw [hd] at hs; cases hs
      | some d =>
        rw [hd] at hs
        refine ⟨_, call_reprD hg hu, fun ρ H ws R hx Q P => ?_⟩
        obtain ⟨w, rfl, hv⟩ := hx.one'
        exact ⟨_, d, s, rfl, snap_dp R hv hd, hs, P.same R (.str _)⟩
    · cases e
  · cases e
    refine ⟨_, call_abs, fun ρ H ws R hx Q P => ?_⟩
    obtain ⟨v, rfl, hv⟩ := hx.one'
    cases hv; exact ⟨_, rfl, P.same R (.int _)⟩
  · cases e
    refine ⟨_, call_max2 (hc0 (by intro z; cases z)), fun ρ H ws R hx Q P => ?_⟩
    obtain ⟨v, w, rfl, hv, hw⟩ := hx.two'
    cases hv; cases hw; exact ⟨_, _, rfl, P.same R (.int _)⟩
  · cases e
    refine ⟨_, call_min2 (hc0 (by intro z; cases z)), fun ρ H ws R hx Q P => ?_⟩
    obtain ⟨v, w, rfl, hv, hw⟩ := hx.two'
    cases hv; cases hw; exact ⟨_, _, rfl, P.same R (.int _)⟩
  · split at e
    · cases e
      rename_i mv _ n ns hs
      refine ⟨_, cr_maxS (hc0 (by intro z; cases z)) hu, fun ρ H ws R hx Q P => ?_⟩
      obtain ⟨v, rfl, hv⟩ := hx.one'
      cases hq : seqs mh mv with
      | none => rw [hq] at hs; cases hs
      | some xs =>
        rw [hq] at hs
        have hs' : allInts xs = some (n :: ns) := hs
        cases hv with
        | tup s r => simp only [seqs, Option.some.injEq] at hq; subst hq; have := r.ints hs'; subst this; exact ⟨_, n, ns, rfl, .inr s, P.same R (.int _)⟩
        | ref hp => obtain ⟨us, s, r⟩ := R.lsts hp hq; have := r.ints hs'; subst this; exact ⟨_, n, ns, rfl, .inl s, P.same R (.int _)⟩
        | _ => simp [seqs] at hq
    · cases e
  · split at e
    · cases e
      rename_i mv _ n ns hs
      refine ⟨_, cr_minS (hc0 (by intro z; cases z)) hu, fun ρ H ws R hx Q P => ?_⟩
      obtain ⟨v, rfl, hv⟩ := hx.one'
      cases hq : seqs mh mv with
      | none => rw [hq] at hs; cases hs
      | some xs =>
        rw [hq] at hs
        have hs' : allInts xs = some (n :: ns) := hs
        cases hv with
        | tup s r => simp only [seqs, Option.some.injEq] at hq; subst hq; have := r.ints hs'; subst this; exact ⟨_, n, ns, rfl, .inr s, P.same R (.int _)⟩
        | ref hp => obtain ⟨us, s, r⟩ := R.lsts hp hq; have := r.ints hs'; subst this; exact ⟨_, n, ns, rfl, .inl s, P.same R (.int _)⟩
        | _ => simp [seqs] at hq
    · split at e
      · rename_i mv _ _ _ xs hq
        unfold minM at e
        split at e
        · rename_i ds hd
          split at e
          · rename_i ho
            split at e
            · rename_i x hxi
              cases e
              refine ⟨_, cr_minD (hc0 (by intro z; cases z)) hu, fun ρ H ws R hx Q P => ?_⟩
              obtain ⟨v, rfl, hv⟩ := hx.one'
              cases hv with
              | tup s r =>
                simp only [seqs, Option.some.injEq] at hq
                subst hq
                obtain ⟨y, e1, e2⟩ := r.get hxi
                exact ⟨_, _, ds, y, rfl, .inr s, dVs_dp _ (snapR_dp R 5) _ _ ds r hd, ho, e1, P.same R e2⟩
              | ref hp =>
                obtain ⟨us, s, r⟩ := R.lsts hp hq
                obtain ⟨y, e1, e2⟩ := r.get hxi
                exact ⟨_, _, ds, y, rfl, .inl s, dVs_dp _ (snapR_dp R 5) _ _ ds r hd, ho, e1, P.same R e2⟩
              | _ => simp [seqs] at hq
            · cases e
          · cases e
        · cases e
      · cases e
  · split at e
    · rename_i xs _ ns hs
      cases e
      refine ⟨_, cr_sortedTI, fun ρ H ws R hx Q P => ?_⟩
      obtain ⟨v, rfl, hv⟩ := hx.one'
      cases hv with
      | tup s r =>
        have := r.ints hs
        subst this
        refine ⟨_, ns, rfl, s, fun ns' p hp1 hp2 hn => ?_⟩
        have hm : ns' = ns.mergeSort fun x y => decide (x ≤ y) := by
          refine PySem.W.ksm_same (hp1.trans (List.mergeSort_perm _ _).symm) hp2 ?_
          have hs := List.pairwise_mergeSort (le := fun x y : Int => decide (x ≤ y)) (fun a b c h1 h2 => by simp at *; omega) (fun a b => by simp; omega) ns
          exact hs.imp fun h => by simpa using h
        rw [hm]
        exact P.newL R (Reps.ofInts _) hn
    · cases e
  · split at e
    · rename_i a kvs hd
      split at e
      · rename_i ns hk
        split at e
        · rename_i h64
          cases e
          refine ⟨_, call_sortedDI (hc0 (by intro z; cases z)), fun ρ H ws R hx Q P => ?_⟩
          obtain ⟨v, rfl, hv⟩ := hx.one'
          cases hv with
          | ref hp =>
            obtain ⟨us, s, r⟩ := R.dct hp hd
            refine ⟨_, us, ns, rfl, .of s, intKeys_rep r hk, h64, fun ns' p hp1 hp2 hn => ?_⟩
            have hm : ns' = ns.mergeSort fun x y => decide (x ≤ y) := by
              refine PySem.W.ksm_same (hp1.trans (List.mergeSort_perm _ _).symm) hp2 ?_
              have hs := List.pairwise_mergeSort (le := fun x y : Int => decide (x ≤ y)) (fun a b c h1 h2 => by simp at *; omega) (fun a b => by simp; omega) ns
              exact hs.imp fun h => by simpa using h
            rw [hm]
            exact P.newL R (Reps.ofInts _) hn
        · cases e
      · cases e
    · split at e
      · cases e
        rename_i a _ ns hs
        obtain ⟨xs, h1, h2⟩ := lsts_some hs
        refine ⟨_, cr_sortedI, fun ρ H ws R hx Q P => ?_⟩
        obtain ⟨v, rfl, hv⟩ := hx.one'
        cases hv with
        | ref hp =>
          obtain ⟨us, s, r⟩ := R.lsts hp h1
          have := r.ints h2
          subst this
          refine ⟨_, ns, rfl, s, fun ns' p hp1 hp2 hn => ?_⟩
          have hm : ns' = ns.mergeSort fun x y => decide (x ≤ y) := by
            refine PySem.W.ksm_same (hp1.trans (List.mergeSort_perm _ _).symm) hp2 ?_
            have hs := List.pairwise_mergeSort (le := fun x y : Int => decide (x ≤ y)) (fun a b c h1 h2 => by simp at *; omega) (fun a b => by simp; omega) ns
            exact hs.imp fun h => by simpa using h
          rw [hm]
          exact P.newL R (Reps.ofInts _) hn
      · cases e
  · cases e
/-! ### isinstance -/
theorem isiS {mx : MV} {t : Ty} {mh : MH} {b : Bool} (e : isiM mx t mh = some b) {ρ : List Addr} {H : Hp} {x : V} (R : RepH X.K ρ mh H) (hx : Rep X.K ρ H mx x) : ∃ a : String, TyX X.K H x (.type a) ∧ kitB a t.tn = some b := by
  have k : ∀ (a : String) (c : Bool), kitB a t.tn = some c → ∀ {x}, TyX X.K H x (.type a) → some c = some b → ∃ a : String, TyX X.K H x (.type a) ∧ kitB a t.tn = some b := fun a c h x h2 e => ⟨a, h2, by rw [h]; exact e⟩
  cases hx with
  | non => refine k "NoneType" false ?_ (.base .non) (by simpa [isiM] using e); cases t <;> decide +kernel
  | bl c =>
    cases t
    · exact k "bool" true (by decide +kernel) (.base (.bl _)) e
    · exact k "bool" true (by decide +kernel) (.base (.bl _)) e
    all_goals exact k "bool" false (by decide +kernel) (.base (.bl _)) e
  | int i =>
    cases t
    · exact k "int" true (by decide +kernel) (.base (.int _)) e
    all_goals exact k "int" false (by decide +kernel) (.base (.int _)) e
  | str i =>
    cases t
    case str => exact k "str" true (by decide +kernel) (.base (.str _)) e
    all_goals exact k "str" false (by decide +kernel) (.base (.str _)) e
  | @tup _ p _ s r =>
    have h1 : TyX X.K H (.ref p) (.type "tuple") := by
      rcases s with (s | ⟨o, s⟩) | ⟨o, its, n, s, c, _⟩
      · exact .base (.tup s)
      · exact .fTuple s
      · exact .kTuple s c
    cases t
    case tuple => exact k "tuple" true (by decide +kernel) h1 e
    all_goals exact k "tuple" false (by decide +kernel) h1 e
  | @ref _ p hp =>
    simp only [isiM] at e
    split at e
    · obtain ⟨vs, h1, _⟩ := R.lst hp (by assumption)
      have h1 : TyX X.K H (.ref p) (.type "list") := .base (.lst h1)
      cases t
      case list => exact k "list" true (by decide +kernel) h1 e
      all_goals exact k "list" false (by decide +kernel) h1 e
    · obtain ⟨vs, h1, _⟩ := R.dct hp (by assumption)
      have h1 : TyX X.K H (.ref p) (.type "dict") := .base (.dK h1)
      cases t
      case dict => exact k "dict" true (by decide +kernel) h1 e
      all_goals exact k "dict" false (by decide +kernel) h1 e
    · cases e
/-! ### methods of lists -/
def Me.nm : Me → Str
  | .append => "append" | .extend => "extend" | .pop => "pop" | .insert => "insert" | .count => "count" | .index => "index" | .reverse => "reverse" | .get => "get" | .items => "items" | .join => "join" | .split => "split" | .remove => "remove" | .clear => "clear" | .copy => "copy"
def LmS (X : Cx) (m : Me) (a : Nat) (vs : List MV) (mh : MH) (mv : MV) (mh' : MH) : Prop :=
  ∃ id r, Slot "list" m.nm id ∧ typeOf (.builtin id) = pure (.type "method_descriptor") ∧ MtR X id r ∧ ∀ ρ H p ws, RepH X.K ρ mh H → ρ[a]? = some p → Reps X.K ρ H vs ws → ∀ Q : VK, Post X.K ρ mh H mv mh' Q → r (.ref p) ws H Q
theorem setP {K : PySem.W.Frag} {ρ : List Addr} {mh : MH} {H : Hp} {a : Nat} {p : Addr} {xs ys : List MV} {ws : List V} {mv : MV} {v : V} {Q : VK} (R : RepH K ρ mh H) (hp : ρ[a]? = some p) (e : mh[a]? = some (.lst xs)) (r : Reps K ρ H ys ws)
    (hv : Rep K ρ H mv v) (P : Post K ρ mh H mv (mh.set a (.lst ys)) Q) : Q v (upd H p (.lst ws)) := by
  obtain ⟨b1, b2⟩ := R.set (o' := .lst ys) (ho := .lst ws) hp e rfl rfl (fun H' k e' => ⟨_, e', Reps.mono' (List.prefix_refl _) k _ _ r⟩)
  exact P _ _ _ b1 (hv.stp R b2) b2
theorem cnt_is {o : Option (List Int)} {f : List Int → Option Int} {h h' : MH} {mv : MV} (e : ofO ((o.bind f).map MV.int) h = .ok mv h') : ∃ ns j, o = some ns ∧ f ns = some j ∧ mv = .int j ∧ h' = h := by
  cases o with
  | none => cases e
  | some ns =>
    simp only [Option.bind_some] at e
    cases q : f ns with
    | none => rw [q] at e; cases e
    | some j => rw [q] at e; cases e; exact ⟨ns, j, rfl, q, rfl, rfl⟩
theorem lmS {m : Me} {a : Nat} {vs : List MV} {mv : MV} {mh mh' : MH} (e : methM m .list (.ref a) vs mh = .ok mv mh') : LmS X m a vs mh mv mh' := by
  have hl := lineM_le
  simp only [methM] at e
  split at e
  · rename_i xs _ ea _
    split at e
    · split at e
      · cases e
        refine ⟨_, _, PySem.F.slot_list_append, PySem.F.type_list_append, mt_append, fun ρ H p ws R hp hx Q P => ?_⟩
        obtain ⟨v, rfl, hv⟩ := hx.one'
        obtain ⟨us, h1, r⟩ := R.lst hp ea
        have ln := r.length
        exact ⟨_, _, _, rfl, rfl, h1, by omega, setP R hp ea (r.append (.one hv)) .non P⟩
      · cases e
    · split at e
      · split at e
        · cases e
          rename_i b ys eb _
          refine ⟨_, _, PySem.F.slot_list_extend, PySem.F.type_list_extend, mt_extend, fun ρ H p ws R hp hx Q P => ?_⟩
          obtain ⟨v, rfl, hv⟩ := hx.one'
          obtain ⟨us, h1, r⟩ := R.lst hp ea
          cases hv with
          | ref hb =>
            obtain ⟨us2, h2, r2⟩ := R.lst hb eb
            have ln := r.length; have ln2 := r2.length
            exact ⟨_, _, _, _, rfl, rfl, h1, h2, by omega, setP R hp ea (r.append r2) .non P⟩
        · cases e
      · cases e
    · split at e
      · cases e
        refine ⟨_, _, PySem.F.slot_list_extend, PySem.F.type_list_extend, mt_extT, fun ρ H p ws R hp hx Q P => ?_⟩
        obtain ⟨v, rfl, hv⟩ := hx.one'
        obtain ⟨us, h1, r⟩ := R.lst hp ea
        cases hv with
        | tup hs hr =>
          have ln := r.length; have ln2 := hr.length
          exact ⟨_, _, _, _, rfl, rfl, h1, hs, by omega, setP R hp ea (r.append hr) .non P⟩
      · cases e
    · split at e
      · cases e
        rename_i y hy
        refine ⟨_, _, PySem.F.slot_list_pop, PySem.F.type_list_pop, mt_pop, fun ρ H p ws R hp hx Q P => ?_⟩
        cases hx
        obtain ⟨us, h1, r⟩ := R.lst hp ea
        obtain ⟨v, g, hv⟩ := r.get hy
        exact ⟨_, _, v, rfl, rfl, h1, by rw [← r.length]; exact g, setP R hp ea r.dropLast hv P⟩
      · cases e
    · split at e
      · cases e
        rename_i i y hy
        split at hy
        · rename_i hi
          refine ⟨_, _, PySem.F.slot_list_pop, PySem.F.type_list_pop, mt_popAt, fun ρ H p ws R hp hx Q P => ?_⟩
          obtain ⟨v, rfl, hv⟩ := hx.one'
          cases hv
          obtain ⟨us, h1, r⟩ := R.lst hp ea
          obtain ⟨v, g, hv⟩ := r.get hy
          have hlt : i.toNat < us.length := (List.getElem?_eq_some_iff.mp g).1
          have hix : ixN us.length i = some i.toNat := by
            unfold ixN
            rw [if_pos hi.1, if_pos (by omega)]
          exact ⟨_, _, _, _, v, rfl, rfl, h1, by omega, by omega, (ixN_seq hix).1, g, setP R hp ea (r.eraseIdx _) hv P⟩
        · cases hy
      · cases e
    · split at e
      · cases e
        rename_i hi
        refine ⟨_, _, PySem.F.slot_list_insert, PySem.F.type_list_insert, mt_insert, fun ρ H p ws R hp hx Q P => ?_⟩
        obtain ⟨v, w, rfl, hv, hw⟩ := hx.two'
        cases hv
        obtain ⟨us, h1, r⟩ := R.lst hp ea
        have ln := r.length
        exact ⟨_, _, _, _, rfl, rfl, h1, by omega, hi.2.1, by omega, setP R hp ea (((r.take _).append (.one hw)).append (r.drop _)) .non P⟩
      · cases e
    · cases e
      refine ⟨_, _, PySem.F.slot_list_reverse, PySem.F.type_list_reverse, mt_reverse, fun ρ H p ws R hp hx Q P => ?_⟩
      cases hx
      obtain ⟨us, h1, r⟩ := R.lst hp ea
      exact ⟨_, _, rfl, rfl, h1, setP R hp ea r.reverse .non P⟩
    · cases e
      refine ⟨_, _, PySem.F.slot_list_clear, PySem.F.type_list_clear, mt_clear, fun ρ H p ws R hp hx Q P => ?_⟩
      cases hx
      obtain ⟨us, h1, r⟩ := R.lst hp ea
      exact ⟨_, _, rfl, rfl, h1, setP R hp ea .nil .non P⟩
    · obtain ⟨ns, j, h1, h2, rfl, rfl⟩ := cnt_is e
      simp only [cntI, Option.some.injEq] at h2
      subst h2
      refine ⟨_, _, PySem.F.slot_list_count, PySem.F.type_list_count, mt_lcount, fun ρ H p ws R hp hx Q P => ?_⟩
      obtain ⟨v, rfl, hv⟩ := hx.one'
      cases hv
      obtain ⟨us, h3, r⟩ := R.lst hp ea
      obtain rfl := r.ints h1
      exact ⟨p, ns, _, rfl, rfl, .of h3, P _ _ _ R (.int _) .refl⟩
    · obtain ⟨ns, j, h1, h2, rfl, rfl⟩ := cnt_is e
      simp only [cntI] at h2
      split at h2
      case h_2 => cases h2
      rename_i j h2'
      cases h2
      obtain ⟨g1, g2⟩ := idx_at h2'
      refine ⟨_, _, PySem.F.slot_list_index, PySem.F.type_list_index, mt_index, fun ρ H p ws R hp hx Q P => ?_⟩
      obtain ⟨v, rfl, hv⟩ := hx.one'
      cases hv
      obtain ⟨us, h3, r⟩ := R.lst hp ea
      obtain rfl := r.ints h1
      refine ⟨p, ns.map V.int, _, j, _, rfl, rfl, .of h3, rfl, by simp [flatV], by rw [List.getElem?_map, g1]; rfl, by simp [eqV], fun m z' hm hz => ?_, P _ _ _ R (.int _) .refl⟩
      rw [List.getElem?_map] at hz
      cases q : ns[m]? with
      | none => rw [q] at hz; cases hz
      | some z =>
        rw [q] at hz
        cases hz
        have := g2 m hm
        rw [q] at this
        simpa [eqV] using this
    · split at e
      · cases e
        rename_i j hj
        obtain ⟨ns, h1, h2⟩ := Option.bind_eq_some_iff.mp hj
        obtain ⟨g1, g2⟩ := idx_at h2
        refine ⟨_, _, PySem.F.slot_list_remove, PySem.F.type_list_remove, mt_remove, fun ρ H p ws R hp hx Q P => ?_⟩
        obtain ⟨v, rfl, hv⟩ := hx.one'
        cases hv
        obtain ⟨us, h3, r⟩ := R.lst hp ea
        obtain rfl := r.ints h1
        refine ⟨p, ns, _, j, rfl, rfl, h3, g1, g2, ?_⟩
        have := setP R hp ea (r.eraseIdx j) .non P
        rw [erase_mapI] at this
        exact this
      · cases e
    · cases e
  · rename_i h; cases h
  · cases e
end
end Mn

set_option maxHeartbeats 4000000
/-! Snd: expressions: what the small evaluator says, the model does. -/
namespace Mn
open PySem PySem.Spec PyProof.Rows L2

/-- the fields of a refusal, in its own dict -/
def FldM (c : Str) (fs : List MV) (l : List (Str × V)) : Prop := ∀ x m, fldXM c fs x = some m → ∃ v, l.lookup x = some v ∧ ∀ K ρ H, Rep K ρ H m v
/-- the refusal at hand: slot k holds it -/
def CurX (X : Cx) (c : Str) (fs : List MV) (k : Nat) (H : Hp) (σ : L2.St) : Prop :=
  ∃ (a : Addr) (oe : Obj) (dd : Addr) (l : List (Str × V)) (C : Addr), (a, oe) ∈ X.pn ∧ σ[k]? = some (some (.ref a)) ∧ oe.cls = .ref C ∧ oe.dict = some dd ∧ (∃ vs, oe.data = .fields vs) ∧ H dd = some (.xd l) ∧ X.mg c = some (.ref C) ∧ FldM c fs l
structure RepS (X : Cx) (M : Cm) (ρ : List Addr) (H : Hp) (mσ : MS') (σ : L2.St) : Prop where
  len : σ.length = mσ.length
  get : ∀ (i : Nat) (m : MV), mσ[i]? = some (some m) → ∃ v, σ[i]? = some (some v) ∧ Rep X.K ρ H m v
  cur : ∀ c fs k, M.ex = some (c, fs, k) → CurX X c fs k H σ
section
variable {X : Cx} {M : Cm} {ρ ρ' : List Addr} {mh mh' : MH} {H H' : Hp} {mσ : MS'} {σ : L2.St}
theorem RepH.xd {K : PySem.W.Frag} (R : RepH K ρ mh H) (T : Stp ρ mh H ρ' mh' H') {dd : Addr} {l : List (Str × V)} (e : H dd = some (.xd l)) : H' dd = some (.xd l) :=
  T.frm dd _ (fun m => by rcases R.mu m with ⟨_, z⟩ | ⟨_, z⟩ <;> (rw [e] at z; cases z)) e
theorem RepS.stp (S : RepS X M ρ H mσ σ) (R : RepH X.K ρ mh H) (T : Stp ρ mh H ρ' mh' H') : RepS X M ρ' H' mσ σ := ⟨S.len, fun i m e => by
  obtain ⟨v, h1, h2⟩ := S.get i m e
  exact ⟨v, h1, h2.stp R T⟩, fun c fs k e => by
  obtain ⟨a, oe, dd, l, C, h1, h2, h3, h4, h5, h6, h7⟩ := S.cur c fs k e
  exact ⟨a, oe, dd, l, C, h1, h2, h3, h4, h5, R.xd T h6, h7⟩⟩
theorem RepS.set (S : RepS X M ρ H mσ σ) {m : MV} {v : V} (r : Rep X.K ρ H m v) (i : Nat) (hi : ∀ c fs k, M.ex = some (c, fs, k) → k ≠ i) : RepS X M ρ H (mσ.set i (some m)) (σ.set i (some v)) := by
  refine ⟨by simp [S.len], fun j m' e => ?_, fun c fs k e => ?_⟩
  · by_cases h : j = i
    · subst h
      by_cases hl : j < mσ.length
      · rw [List.getElem?_set_self hl] at e
        cases e
        rw [List.getElem?_set_self (by rw [S.len]; exact hl)]
        exact ⟨v, rfl, r⟩
      · rw [List.getElem?_eq_none (by simp; omega)] at e; cases e
    · rw [List.getElem?_set_ne (Ne.symm h)] at e ⊢
      exact S.get j m' e
  · obtain ⟨a, oe, dd, l, C, h1, h2, h3⟩ := S.cur c fs k e
    exact ⟨a, oe, dd, l, C, h1, by rw [List.getElem?_set_ne (Ne.symm (hi c fs k e))]; exact h2, h3⟩
/-- no refusal is at hand: the context does not matter -/
theorem RepS.any {Y : Cx} {N : Cm} (S : RepS X M ρ H mσ σ) (hk : Y.K = X.K) (hx : N.ex = none) : RepS Y N ρ H mσ σ := ⟨S.len, fun i m e => by rw [hk]; exact S.get i m e, fun c fs k e => by rw [hx] at e; cases e⟩
theorem bind_ok {α β : Type} {r : R α} {f : α → MH → R β} {b : β} {h : MH} (e : r.bind f = .ok b h) : ∃ a h1, r = .ok a h1 ∧ f a h1 = .ok b h := by
  cases r with
  | ok a h1 => exact ⟨a, h1, rfl, e⟩
  | exc _ _ _ => cases e
  | bad => cases e
end
section
variable (X : Cx)
def tS (e : Expr) : TE := fun σ H Q => ∃ t, PE X e t ∧ t σ H Q
def tT (e : Expr) : TT := fun σ H Q => ∃ t, PT X e t ∧ t σ H Q
def tW (e : Expr) : TT := fun σ H Q => ∃ t, PW X e t ∧ t σ H Q
def tA (es : List Expr) : TA := fun σ H Q => ∃ t, PA X es t ∧ t σ H Q
def tSS (s : List Stmt) : TS := fun D σ H => ∃ t, PSs X s t ∧ t D σ H
def tS1 (s : Stmt) : TS := fun D σ H => ∃ t, PS X s t ∧ t D σ H
end
section
variable {X : Cx}
theorem pe_tS {e : Expr} : PE X e (tS X e) := ⟨fun pins s σ H Q I ⟨_, h, q⟩ => h.run pins s σ H Q I q⟩
theorem pt_tT {e : Expr} : PT X e (tT X e) := ⟨fun pins s σ H Q I ⟨_, h, q⟩ => h.run pins s σ H Q I q⟩
theorem pw_tW {e : Expr} : PW X e (tW X e) := ⟨fun w pins s σ H Q I ⟨_, h, q⟩ => h.run w pins s σ H Q I q⟩
theorem pa_tA {es : List Expr} : PA X es (tA X es) := ⟨fun p pins s σ H Q I ⟨_, h, q⟩ => h.run p pins s σ H Q I q⟩
theorem pss_tSS {s : List Stmt} : PSs X s (tSS X s) := ⟨fun pins t σ H Q I ⟨_, h, q⟩ => h.run pins t σ H Q I q⟩
theorem ps_tS1 {s : Stmt} : PS X s (tS1 X s) := ⟨fun pins t σ H Q I ⟨_, h, q⟩ => h.run pins t σ H Q I q⟩
end
theorem op_void {X : Cx} {f : Value → Value → Sem Value} : OpR X f (fun _ _ _ _ => False) := fun _ _ _ _ _ _ _ _ _ _ _ _ h => h.elim
def SE (X : Cx) (M : Cm) (e : Expr) (me : ME) : Prop :=
  ∀ σ H mσ mh ρ, RepH X.K ρ mh H → RepS X M ρ H mσ σ → ∀ mv mh', evE M me mσ mh = .ok mv mh' → ∀ Q, Post X.K ρ mh H mv mh' Q → tS X e σ H Q
def ST (X : Cx) (M : Cm) (e : Expr) (me : ME) : Prop :=
  ∀ σ H mσ mh ρ, RepH X.K ρ mh H → RepS X M ρ H mσ σ → ∀ mv mh', evE M me mσ mh = .ok mv mh' → ∀ b, truth mh' mv = some b → ∀ Q, (∀ H' ρ', RepH X.K ρ' mh' H' → Stp ρ mh H ρ' mh' H' → Q b H') → tT X e σ H Q
def SW (X : Cx) (M : Cm) (e : Expr) (me : ME) : Prop :=
  ∀ σ H mσ mh ρ, RepH X.K ρ mh H → RepS X M ρ H mσ σ → ∀ mv mh', evE M me mσ mh = .ok mv mh' → ∀ b, truth mh' mv = some b → ∀ Q, (∀ H' ρ', RepH X.K ρ' mh' H' → Stp ρ mh H ρ' mh' H' → Q b H') → tW X e σ H Q
def SA (X : Cx) (M : Cm) (es : List Expr) (mes : List ME) : Prop :=
  ∀ σ H mσ mh ρ, RepH X.K ρ mh H → RepS X M ρ H mσ σ → ∀ vs mh', evEs M mes mσ mh = .ok vs mh' → ∀ Q, (∀ ws H' ρ', RepH X.K ρ' mh' H' → Reps X.K ρ' H' vs ws → Stp ρ mh H ρ' mh' H' → Q ws H') → tA X es σ H Q
section
variable {X : Cx} {M : Cm} {a b c : Expr} {ma mb mc : ME} {pos : Pos}
/-! ### constants and names -/
theorem se_c {v : MV} {w : V} (h : PE X a (tC w)) (r : ∀ ρ H, Rep X.K ρ H v w) : SE X M a (.c v) := by
  intro σ H mσ mh ρ R S mv mh' e Q P
  simp only [evE] at e
  cases e
  exact ⟨_, h, P.same R (r ρ H)⟩
theorem se_var {i : Nat} {x : Str} (hN : X.N[i]? = some x) (hv : Vis X.env.scope x) (hd : (x == ("__debug__" : Str)) = false) (hcd : (x == ("__classdict__" : Str)) = false) : SE X M (.Name x pos) (.var i) := by
  intro σ H mσ mh ρ R S mv mh' e Q P
  simp only [evE] at e
  split at e
  · cases e
    obtain ⟨v, h1, h2⟩ := S.get i _ (by assumption)
    exact ⟨_, pe_var hN hv hd hcd, v, h1, P.same R h2⟩
  · cases e
theorem se_glb {x : Str} {u : Value} {w : V} (hg : Gl X x) (hm : X.mg x = some u) (ru : RelV w u) (hd : (x == ("__debug__" : Str)) = false) (r : ∀ v, M.gl x = some v → ∀ ρ H, Rep X.K ρ H v w) : SE X M (.Name x pos) (.glb x) := by
  intro σ H mσ mh ρ R S mv mh' e Q P
  simp only [evE] at e
  cases h : M.gl x with
  | none => rw [h] at e; cases e
  | some v => rw [h] at e; cases e; exact ⟨_, pe_glob hg hm ru hd, P.same R (r _ h ρ H)⟩
/-! ### operators -/
theorem se_bin {op : Operator} (ha : SE X M a ma) (hb : SE X M b mb) : SE X M (.BinOp a op b pos) (.bin op ma mb) := by
  intro σ H mσ mh ρ R S mv mh' e Q P
  simp only [evE] at e
  obtain ⟨x, h1, e1, e⟩ := bind_ok e
  obtain ⟨y, h2, e2, e⟩ := bind_ok e
  obtain ⟨r, hr, hq⟩ := binS (X := X) e
  refine ⟨_, pe_op hr pe_tS pe_tS, ?_⟩
  refine ha σ H mσ mh ρ R S x h1 e1 _ fun v H1 ρ1 R1 r1 S1 => ?_
  refine hb σ H1 mσ h1 ρ1 R1 (S.stp R S1) y h2 e2 _ fun w H2 ρ2 R2 r2 S2 => ?_
  exact hq ρ2 H2 v w R2 (r1.stp R1 S2) r2 Q (P.after (S1.trans S2))
theorem se_neg (ha : SE X M a ma) : SE X M (.UnaryOp .USub a pos) (.neg ma) := by
  intro σ H mσ mh ρ R S mv mh' e Q P
  simp only [evE] at e
  obtain ⟨x, h1, e1, e⟩ := bind_ok e
  refine ⟨_, pe_un un_neg pe_tS, ?_⟩
  refine ha σ H mσ mh ρ R S x h1 e1 _ fun v H1 ρ1 R1 r1 S1 => ?_
  cases x <;> simp only at e <;> cases e
  cases r1
  exact ⟨_, rfl, P _ _ _ R1 (.int _) S1⟩
theorem ofB_ok {o : Option Bool} {h h' : MH} {v : MV} (e : ofB o h = .ok v h') : ∃ b, o = some b ∧ v = .bl b ∧ h' = h := by
  cases o with
  | none => cases e
  | some b => cases e; exact ⟨b, rfl, rfl, rfl⟩
theorem se_cmp (hu : X.A.units + 65 < cLine) {op : CmpOp} (hm : behindInMarks op b = false) (ha : SE X M a ma) (hb : SE X M b mb) : SE X M (.Compare a [op] [b] pos) (.cmp op ma mb) := by
  intro σ H mσ mh ρ R S mv mh' e Q P
  simp only [evE] at e
  obtain ⟨x, h1, e1, e⟩ := bind_ok e
  obtain ⟨y, h2, e2, e⟩ := bind_ok e
  obtain ⟨k, e3, rfl, rfl⟩ := ofB_ok e
  obtain ⟨r, hr, hq⟩ := cmpS (X := X) hu e3
  refine ⟨_, pe_cmpR hr pe_tS pe_tS hm, ?_⟩
  refine ha σ H mσ mh ρ R S x h1 e1 _ fun v H1 ρ1 R1 r1 S1 => ?_
  refine hb σ H1 mσ h1 ρ1 R1 (S.stp R S1) y _ e2 _ fun w H2 ρ2 R2 r2 S2 => ?_
  exact hq ρ2 H2 v w R2 (r1.stp R1 S2) r2 Q (P _ _ _ R2 (.bl _) (S1.trans S2))
theorem se_chain (hu : X.A.units + 65 < cLine) {o1 o2 : CmpOp} (hm : lastMarks [o1, o2] [b, c] = false) (ha : SE X M a ma) (hb : SE X M b mb) (hc : SE X M c mc) : SE X M (.Compare a [o1, o2] [b, c] pos) (.chain o1 o2 ma mb mc) := by
  intro σ H mσ mh ρ R S mv mh' e Q P
  simp only [evE] at e
  obtain ⟨x, h1, e1, e⟩ := bind_ok e
  obtain ⟨y, h2, e2, e⟩ := bind_ok e
  split at e
  · obtain ⟨z, h3, e4, e⟩ := bind_ok e
    obtain ⟨k, e5, rfl, rfl⟩ := ofB_ok e
    obtain ⟨r, hr, hq⟩ := cmpS (X := X) hu ‹cmpM o1 x y h2 = _›
    obtain ⟨r', hr', hq'⟩ := cmpS (X := X) hu e5
    refine ⟨_, pe_chain hr hr' pe_tS pe_tS pe_tS hm, ?_⟩
    refine ha σ H mσ mh ρ R S x h1 e1 _ fun v H1 ρ1 R1 r1 S1 => ?_
    refine hb σ H1 mσ h1 ρ1 R1 (S.stp R S1) y _ e2 _ fun w H2 ρ2 R2 r2 S2 => ?_
    refine hq ρ2 H2 v w R2 (r1.stp R1 S2) r2 _ ⟨_, rfl, ?_⟩
    rw [if_pos rfl]
    refine hc σ H2 mσ h2 ρ2 R2 ((S.stp R S1).stp R1 S2) z _ e4 _ fun w3 H3 ρ3 R3 r3 S3 => ?_
    exact hq' ρ3 H3 w w3 R3 (r2.stp R2 S3) r3 Q (P _ _ _ R3 (.bl _) ((S1.trans S2).trans S3))
  · cases e
    obtain ⟨r, hr, hq⟩ := cmpS (X := X) hu ‹cmpM o1 x y mh' = _›
    refine ⟨_, pe_chain hr op_void pe_tS pe_tS pe_tS hm, ?_⟩
    refine ha σ H mσ mh ρ R S x h1 e1 _ fun v H1 ρ1 R1 r1 S1 => ?_
    refine hb σ H1 mσ h1 ρ1 R1 (S.stp R S1) y _ e2 _ fun w H2 ρ2 R2 r2 S2 => ?_
    refine hq ρ2 H2 v w R2 (r1.stp R1 S2) r2 _ ⟨_, rfl, ?_⟩
    rw [if_neg Bool.false_ne_true]
    exact P _ _ _ R2 (.bl _) (S1.trans S2)
  · cases e
/-! ### truth -/
theorem se_not (ha : SE X M a ma) : SE X M (.UnaryOp .Not a pos) (.not_ ma) := by
  intro σ H mσ mh ρ R S mv mh' e Q P
  simp only [evE] at e
  obtain ⟨x, h1, e1, e⟩ := bind_ok e
  split at e
  · cases e
    refine ⟨_, pe_notT pe_tS, ?_⟩
    refine ha σ H mσ mh ρ R S x _ e1 _ fun v H1 ρ1 R1 r1 S1 => ⟨_, truV R1 r1 (by assumption), P _ _ _ R1 (.bl _) S1⟩
  · cases e
theorem se_and {rest : List Expr} (ha : SE X M a ma) (hb : SE X M (.BoolOp .And (b :: rest) pos) mb) : SE X M (.BoolOp .And (a :: b :: rest) pos) (.and_ ma mb) := by
  intro σ H mσ mh ρ R S mv mh' e Q P
  simp only [evE] at e
  obtain ⟨x, h1, e1, e⟩ := bind_ok e
  refine ⟨_, pe_andT pe_tS pe_tS, ?_⟩
  refine ha σ H mσ mh ρ R S x h1 e1 _ fun v H1 ρ1 R1 r1 S1 => ?_
  split at e
  · refine ⟨_, truV R1 r1 (by assumption), ?_⟩
    rw [if_pos rfl]
    exact hb σ H1 mσ h1 ρ1 R1 (S.stp R S1) mv mh' e Q (P.after S1)
  · cases e
    refine ⟨_, truV R1 r1 (by assumption), ?_⟩
    rw [if_neg Bool.false_ne_true]
    exact P _ _ _ R1 r1 S1
  · cases e
theorem se_or {rest : List Expr} (ha : SE X M a ma) (hb : SE X M (.BoolOp .Or (b :: rest) pos) mb) : SE X M (.BoolOp .Or (a :: b :: rest) pos) (.or_ ma mb) := by
  intro σ H mσ mh ρ R S mv mh' e Q P
  simp only [evE] at e
  obtain ⟨x, h1, e1, e⟩ := bind_ok e
  refine ⟨_, pe_orT pe_tS pe_tS, ?_⟩
  refine ha σ H mσ mh ρ R S x h1 e1 _ fun v H1 ρ1 R1 r1 S1 => ?_
  split at e
  · cases e
    refine ⟨_, truV R1 r1 (by assumption), ?_⟩
    rw [if_pos rfl]
    exact P _ _ _ R1 r1 S1
  · refine ⟨_, truV R1 r1 (by assumption), ?_⟩
    rw [if_neg Bool.false_ne_true]
    exact hb σ H1 mσ h1 ρ1 R1 (S.stp R S1) mv mh' e Q (P.after S1)
  · cases e
theorem se_one {op : BoolOp} (ha : SE X M a ma) : SE X M (.BoolOp op [a] pos) ma := by
  intro σ H mσ mh ρ R S mv mh' e Q P
  obtain ⟨t, h, q⟩ := ha σ H mσ mh ρ R S mv mh' e Q P
  exact ⟨_, pe_one h, q⟩
theorem se_ife (hc : ST X M c mc) (ha : SE X M a ma) (hb : SE X M b mb) : SE X M (.IfExp c a b pos) (.ife mc ma mb) := by
  intro σ H mσ mh ρ R S mv mh' e Q P
  simp only [evE] at e
  obtain ⟨x, h1, e1, e⟩ := bind_ok e
  refine ⟨_, pe_ifExp pt_tT pe_tS pe_tS, ?_⟩
  split at e
  · refine hc σ H mσ mh ρ R S x h1 e1 true (by assumption) _ fun H1 ρ1 R1 S1 => ?_
    rw [if_pos rfl]
    exact ha σ H1 mσ h1 ρ1 R1 (S.stp R S1) mv mh' e Q (P.after S1)
  · refine hc σ H mσ mh ρ R S x h1 e1 false (by assumption) _ fun H1 ρ1 R1 S1 => ?_
    rw [if_neg Bool.false_ne_true]
    exact hb σ H1 mσ h1 ρ1 R1 (S.stp R S1) mv mh' e Q (P.after S1)
  · cases e
/-! ### tests -/
theorem st_plain (ha : SE X M a ma) (he : ∀ whole, isTrue a X.env whole = (do let v ← whole; standAt a.pos; holding [v] (truthy v))) : ST X M a ma := by
  intro σ H mσ mh ρ R S mv mh' e k hk Q P
  refine ⟨_, pt_truth pe_tS he, ?_⟩
  exact ha σ H mσ mh ρ R S mv mh' e _ fun v H1 ρ1 R1 r1 S1 => ⟨k, truV R1 r1 hk, P H1 ρ1 R1 S1⟩
theorem st_not (ha : ST X M a ma) : ST X M (.UnaryOp .Not a pos) (.not_ ma) := by
  intro σ H mσ mh ρ R S mv mh' e k hk Q P
  simp only [evE] at e
  obtain ⟨x, h1, e1, e⟩ := bind_ok e
  split at e
  · cases e
    simp only [truth, Option.some.injEq] at hk
    subst hk
    refine ⟨_, pt_not pt_tT, ?_⟩
    exact ha σ H mσ mh ρ R S x _ e1 _ (by assumption) _ fun H1 ρ1 R1 S1 => P H1 ρ1 R1 S1
  · cases e
theorem st_cmp (hu : X.A.units + 65 < cLine) {op : CmpOp} (hm : behindInMarks op b = false) (ha : SE X M a ma) (hb : SE X M b mb) : ST X M (.Compare a [op] [b] pos) (.cmp op ma mb) := by
  intro σ H mσ mh ρ R S mv mh' e k hk Q P
  simp only [evE] at e
  obtain ⟨x, h1, e1, e⟩ := bind_ok e
  obtain ⟨y, h2, e2, e⟩ := bind_ok e
  obtain ⟨k', e3, rfl, rfl⟩ := ofB_ok e
  simp only [truth, Option.some.injEq] at hk
  subst hk
  obtain ⟨r, hr, hq⟩ := cmpS (X := X) hu e3
  refine ⟨_, pt_cmpR hr pe_tS pe_tS hm, ?_⟩
  refine ha σ H mσ mh ρ R S x h1 e1 _ fun v H1 ρ1 R1 r1 S1 => ?_
  refine hb σ H1 mσ h1 ρ1 R1 (S.stp R S1) y _ e2 _ fun w H2 ρ2 R2 r2 S2 => ?_
  exact hq ρ2 H2 v w R2 (r1.stp R1 S2) r2 _ ⟨_, rfl, P _ _ R2 (S1.trans S2)⟩
theorem st_chain (hu : X.A.units + 65 < cLine) {o1 o2 : CmpOp} (hm : lastMarks [o1, o2] [b, c] = false) (ha : SE X M a ma) (hb : SE X M b mb) (hc : SE X M c mc) : ST X M (.Compare a [o1, o2] [b, c] pos) (.chain o1 o2 ma mb mc) := by
  intro σ H mσ mh ρ R S mv mh' e k hk Q P
  simp only [evE] at e
  obtain ⟨x, h1, e1, e⟩ := bind_ok e
  obtain ⟨y, h2, e2, e⟩ := bind_ok e
  split at e
  · obtain ⟨z, h3, e4, e⟩ := bind_ok e
    obtain ⟨k', e5, rfl, rfl⟩ := ofB_ok e
    simp only [truth, Option.some.injEq] at hk
    subst hk
    obtain ⟨r, hr, hq⟩ := cmpS (X := X) hu ‹cmpM o1 x y h2 = _›
    obtain ⟨r', hr', hq'⟩ := cmpS (X := X) hu e5
    refine ⟨_, pt_chain hr hr' pe_tS pe_tS pe_tS hm, ?_⟩
    refine ha σ H mσ mh ρ R S x h1 e1 _ fun v H1 ρ1 R1 r1 S1 => ?_
    refine hb σ H1 mσ h1 ρ1 R1 (S.stp R S1) y _ e2 _ fun w H2 ρ2 R2 r2 S2 => ?_
    refine hq ρ2 H2 v w R2 (r1.stp R1 S2) r2 _ ⟨_, rfl, ?_⟩
    rw [if_pos rfl]
    refine hc σ H2 mσ h2 ρ2 R2 ((S.stp R S1).stp R1 S2) z _ e4 _ fun w3 H3 ρ3 R3 r3 S3 => ?_
    exact hq' ρ3 H3 w w3 R3 (r2.stp R2 S3) r3 _ ⟨_, rfl, P _ _ R3 ((S1.trans S2).trans S3)⟩
  · cases e
    simp only [truth, Option.some.injEq] at hk
    subst hk
    obtain ⟨r, hr, hq⟩ := cmpS (X := X) hu ‹cmpM o1 x y mh' = _›
    refine ⟨_, pt_chain hr op_void pe_tS pe_tS pe_tS hm, ?_⟩
    refine ha σ H mσ mh ρ R S x h1 e1 _ fun v H1 ρ1 R1 r1 S1 => ?_
    refine hb σ H1 mσ h1 ρ1 R1 (S.stp R S1) y _ e2 _ fun w H2 ρ2 R2 r2 S2 => ?_
    refine hq ρ2 H2 v w R2 (r1.stp R1 S2) r2 _ ⟨_, rfl, ?_⟩
    rw [if_neg Bool.false_ne_true]
    exact ⟨_, rfl, P _ _ R2 (S1.trans S2)⟩
  · cases e
/-! ### a op1 b op2 c op3 d, where looking at c twice is looking at it once -/
def pureM : ME → Bool
  | .c _ => true
  | .var _ => true
  | .ix a b => pureM a && pureM b
  | _ => false
theorem ofO_h {o : Option MV} {v : MV} {h h' : MH} (e : ofO o h = .ok v h') : h' = h := by
  cases o with
  | none => cases e
  | some w => cases e; rfl
theorem ix_heap {x y v : MV} {h h' : MH} (e : ixM x y h = .ok v h') : h' = h := by
  unfold ixM at e
  split at e
  · exact ofO_h e
  · split at e
    · split at e
      · exact ofO_h e
      · cases e
    · split at e
      · exact ofO_h e
      · cases e
  · split at e
    · exact ofO_h e
    · cases e
  · cases e
theorem pure_heap {M : Cm} : ∀ {a : ME} {σ : MS'} {h h' : MH} {v : MV}, pureM a = true → evE M a σ h = .ok v h' → h' = h
  | .c v, σ, h, h', w, _, e => by simp only [evE] at e; cases e; rfl
  | .var i, σ, h, h', w, _, e => by
    simp only [evE] at e
    split at e
    · cases e; rfl
    · cases e
  | .ix a b, σ, h, h', w, p, e => by
    simp only [pureM, Bool.and_eq_true] at p
    simp only [evE] at e
    obtain ⟨x, h1, e1, e⟩ := bind_ok e
    obtain ⟨y, h2, e2, e⟩ := bind_ok e
    rw [ix_heap e, pure_heap p.2 e2, pure_heap p.1 e1]
def tChain3 (r r' r'' : R2) (ta tb tc td : TE) : TE := fun σ H Q => ta σ H fun x H1 => tb σ H1 fun y H2 => r x y H2 fun z H3 => ∃ k, z = .bl k ∧
  (if k = true then tc σ H3 fun w H4 => r' y w H4 fun z' H5 => ∃ k', z' = .bl k' ∧ (if k' = true then td σ H5 fun u H6 => r'' w u H6 Q else Q (.bl false) H5) else Q (.bl false) H3)
section
variable {d : Expr} {md : ME} {ta tb tc td : TE}
theorem pe_chain3 {op op' op'' : CmpOp} {r r' r'' : R2} (ho : OpR X (compareOp op) r) (ho' : OpR X (compareOp op') r') (ho'' : OpR X (compareOp op'') r'') (ha : PE X a ta) (hb : PE X b tb) (hc : PE X c tc) (hd : PE X d td)
    (hm : lastMarks [op, op', op''] [b, c, d] = false) : PE X (.Compare a [op, op', op''] [b, c, d] pos) (tChain3 r r' r'' ta tb tc td) := by
  refine ⟨fun pins s σ H Q I h => ?_⟩
  refine Compare_chain (thn (ha.run pins s σ H _ I h) fun v s1 ⟨x, H1, I1, r1, q1⟩ => chain_link (thn (hb.run pins s1 σ H1 _ I1 q1) fun u s2 ⟨y, H2, I2, r2, q2⟩ =>
    thn (ho pins s2 σ H2 x y v u _ I2 r1 r2 q2) fun d s3 ⟨z, H3, I3, r3, k, e, q3⟩ => ?_)) hm
  subst e
  cases r3
  refine wpAny_truthy_bool ?_
  cases k with
  | false => exact ite_ff ⟨.bl false, H3, I3, rfl, q3⟩
  | true =>
    refine ite_tt (chain_link (thn (hc.run pins s3 σ H3 _ I3 q3) fun w' s4 ⟨z', H4, I4, r4, q4⟩ => thn (ho' pins s4 σ H4 y z' u w' _ I4 r2 r4 q4) fun d2 s5 ⟨z2, H5, I5, r5, k2, e2, q5⟩ => ?_))
    subst e2
    cases r5
    refine wpAny_truthy_bool ?_
    cases k2 with
    | false => exact ite_ff ⟨.bl false, H5, I5, rfl, q5⟩
    | true => exact ite_tt (chain_last (thn (hd.run pins s5 σ H5 _ I5 q5) fun w3 s6 ⟨z3, H6, I6, r6, q6⟩ => ho'' pins s6 σ H6 z' z3 w' w3 Q I6 r4 r6 q6))
theorem pt_chain3 {op op' op'' : CmpOp} {r r' r'' : R2} (ho : OpR X (compareOp op) r) (ho' : OpR X (compareOp op') r') (ho'' : OpR X (compareOp op'') r'') (ha : PE X a ta) (hb : PE X b tb) (hc : PE X c tc) (hd : PE X d td)
    (hm : lastMarks [op, op', op''] [b, c, d] = false) : PT X (.Compare a [op, op', op''] [b, c, d] pos) (tTest (tChain3 r r' r'' ta tb tc td)) := by
  refine ⟨fun pins s σ H Q I h => ?_⟩
  refine isTrue_chain (thn (ha.run pins s σ H _ I h) fun v s1 ⟨x, H1, I1, r1, q1⟩ => test_link (thn (hb.run pins s1 σ H1 _ I1 q1) fun u s2 ⟨y, H2, I2, r2, q2⟩ =>
    thn (ho pins s2 σ H2 x y v u _ I2 r1 r2 q2) fun d s3 ⟨z, H3, I3, r3, k, e, q3⟩ => ?_)) hm
  subst e
  cases r3
  refine wpAny_truthy_bool ?_
  cases k with
  | false =>
    obtain ⟨k', e', q'⟩ := q3
    cases e'
    exact ite_ff ⟨H3, I3, q'⟩
  | true =>
    refine ite_tt (test_link (thn (hc.run pins s3 σ H3 _ I3 q3) fun w' s4 ⟨z', H4, I4, r4, q4⟩ => thn (ho' pins s4 σ H4 y z' u w' _ I4 r2 r4 q4) fun d2 s5 ⟨z2, H5, I5, r5, k2, e2, q5⟩ => ?_))
    subst e2
    cases r5
    refine wpAny_truthy_bool ?_
    cases k2 with
    | false =>
      obtain ⟨k', e', q'⟩ := q5
      cases e'
      exact ite_ff ⟨H5, I5, q'⟩
    | true =>
      refine ite_tt (test_last (thn (hd.run pins s5 σ H5 _ I5 q5) fun w3 s6 ⟨z3, H6, I6, r6, q6⟩ => thn (ho'' pins s6 σ H6 z' z3 w' w3 _ I6 r4 r6 q6) fun d' s7 ⟨z4, H7, I7, r7, k3, e3, q7⟩ => ?_))
      subst e3
      cases r7
      exact wpAny_truthy_bool ⟨H7, I7, q7⟩
theorem chain3_at (hu : X.A.units + 65 < cLine) {o1 o2 o3 : CmpOp} (hp : pureM mc = true) (ha : SE X M a ma) (hb : SE X M b mb) (hc : SE X M c mc) (hd : SE X M d md)
    {σ : L2.St} {H : Hp} {mσ : MS'} {mh : MH} {ρ : List Addr} (R : RepH X.K ρ mh H) (S : RepS X M ρ H mσ σ) {mv : MV} {mh' : MH} (e : evE M (.and_ (.chain o1 o2 ma mb mc) (.cmp o3 mc md)) mσ mh = .ok mv mh') :
    ∃ k, mv = .bl k ∧ ∃ r r' r'', OpR X (compareOp o1) r ∧ OpR X (compareOp o2) r' ∧ OpR X (compareOp o3) r'' ∧ ∀ Q : VK, (∀ H' ρ', RepH X.K ρ' mh' H' → Stp ρ mh H ρ' mh' H' → Q (.bl k) H') → tChain3 r r' r'' (tS X a) (tS X b) (tS X c) (tS X d) σ H Q := by
  simp only [evE] at e
  obtain ⟨x0, h0, eA, e⟩ := bind_ok e
  obtain ⟨x, h1, e1, eA⟩ := bind_ok eA
  obtain ⟨y, h2, e2, eA⟩ := bind_ok eA
  split at eA
  · obtain ⟨z, h3, e4, eA⟩ := bind_ok eA
    obtain ⟨k, e5, rfl, rfl⟩ := ofB_ok eA
    obtain ⟨r, hr, hq⟩ := cmpS (X := X) hu ‹cmpM o1 x y h2 = _›
    obtain ⟨r', hr', hq'⟩ := cmpS (X := X) hu e5
    obtain rfl := pure_heap hp e4
    simp only [truth] at e
    cases k with
    | true =>
      obtain ⟨z', h4, e6, e⟩ := bind_ok e
      rw [e4] at e6
      cases e6
      obtain ⟨w, h5, e7, e⟩ := bind_ok e
      obtain ⟨k3, e8, rfl, rfl⟩ := ofB_ok e
      obtain ⟨r'', hr'', hq''⟩ := cmpS (X := X) hu e8
      refine ⟨k3, rfl, r, r', r'', hr, hr', hr'', fun Q P => ?_⟩
      refine ha σ H mσ mh ρ R S x h1 e1 _ fun v H1 ρ1 R1 r1 S1 => ?_
      refine hb σ H1 mσ h1 ρ1 R1 (S.stp R S1) y _ e2 _ fun w H2 ρ2 R2 r2 S2 => ?_
      refine hq ρ2 H2 v w R2 (r1.stp R1 S2) r2 _ ⟨_, rfl, ?_⟩
      rw [if_pos rfl]
      have S2' := (S.stp R S1).stp R1 S2
      refine hc σ H2 mσ _ ρ2 R2 S2' z _ e4 _ fun w3 H3 ρ3 R3 r3 S3 => ?_
      refine hq' ρ3 H3 w w3 R3 (r2.stp R2 S3) r3 _ ⟨_, rfl, ?_⟩
      rw [if_pos rfl]
      refine hd σ H3 mσ _ ρ3 R3 (S2'.stp R2 S3) _ _ e7 _ fun w4 H4 ρ4 R4 r4 S4 => ?_
      exact hq'' ρ4 H4 w3 w4 R4 (r3.stp R3 S4) r4 Q (P _ _ R4 (((S1.trans S2).trans S3).trans S4))
    | false =>
      cases e
      refine ⟨false, rfl, r, r', _, hr, hr', op_void, fun Q P => ?_⟩
      refine ha σ H mσ mh ρ R S x h1 e1 _ fun v H1 ρ1 R1 r1 S1 => ?_
      refine hb σ H1 mσ h1 ρ1 R1 (S.stp R S1) y _ e2 _ fun w H2 ρ2 R2 r2 S2 => ?_
      refine hq ρ2 H2 v w R2 (r1.stp R1 S2) r2 _ ⟨_, rfl, ?_⟩
      rw [if_pos rfl]
      refine hc σ H2 mσ _ ρ2 R2 ((S.stp R S1).stp R1 S2) z _ e4 _ fun w3 H3 ρ3 R3 r3 S3 => ?_
      refine hq' ρ3 H3 w w3 R3 (r2.stp R2 S3) r3 _ ⟨_, rfl, ?_⟩
      rw [if_neg Bool.false_ne_true]
      exact P _ _ R3 ((S1.trans S2).trans S3)
  · cases eA
    simp only [truth] at e
    cases e
    obtain ⟨r, hr, hq⟩ := cmpS (X := X) hu ‹cmpM o1 x y _ = _›
    refine ⟨false, rfl, r, _, _, hr, op_void, op_void, fun Q P => ?_⟩
    refine ha σ H mσ mh ρ R S x h1 e1 _ fun v H1 ρ1 R1 r1 S1 => ?_
    refine hb σ H1 mσ h1 ρ1 R1 (S.stp R S1) y _ e2 _ fun w H2 ρ2 R2 r2 S2 => ?_
    refine hq ρ2 H2 v w R2 (r1.stp R1 S2) r2 _ ⟨_, rfl, ?_⟩
    rw [if_neg Bool.false_ne_true]
    exact P _ _ R2 (S1.trans S2)
  · cases eA
theorem se_chain3 (hu : X.A.units + 65 < cLine) {o1 o2 o3 : CmpOp} (hm : lastMarks [o1, o2, o3] [b, c, d] = false) (hp : pureM mc = true) (ha : SE X M a ma) (hb : SE X M b mb) (hc : SE X M c mc) (hd : SE X M d md) :
    SE X M (.Compare a [o1, o2, o3] [b, c, d] pos) (.and_ (.chain o1 o2 ma mb mc) (.cmp o3 mc md)) := by
  intro σ H mσ mh ρ R S mv mh' e Q P
  obtain ⟨k, rfl, r, r', r'', hr, hr', hr'', hq⟩ := chain3_at hu hp ha hb hc hd R S e
  exact ⟨_, pe_chain3 hr hr' hr'' pe_tS pe_tS pe_tS pe_tS hm, hq Q fun H' ρ' R' S' => P _ _ ρ' R' (.bl _) S'⟩
theorem st_chain3 (hu : X.A.units + 65 < cLine) {o1 o2 o3 : CmpOp} (hm : lastMarks [o1, o2, o3] [b, c, d] = false) (hp : pureM mc = true) (ha : SE X M a ma) (hb : SE X M b mb) (hc : SE X M c mc) (hd : SE X M d md) :
    ST X M (.Compare a [o1, o2, o3] [b, c, d] pos) (.and_ (.chain o1 o2 ma mb mc) (.cmp o3 mc md)) := by
  intro σ H mσ mh ρ R S mv mh' e k hk Q P
  obtain ⟨k', rfl, r, r', r'', hr, hr', hr'', hq⟩ := chain3_at hu hp ha hb hc hd R S e
  simp only [truth, Option.some.injEq] at hk
  subst hk
  exact ⟨_, pt_chain3 hr hr' hr'' pe_tS pe_tS pe_tS pe_tS hm, hq _ fun H' ρ' R' S' => ⟨_, rfl, P _ ρ' R' S'⟩⟩
end
theorem sw_st (h : SW X M a ma) : ST X M a ma := by
  intro σ H mσ mh ρ R S mv mh' e k hk Q P
  obtain ⟨t, h1, q⟩ := h σ H mσ mh ρ R S mv mh' e k hk Q P
  exact ⟨t, h1.pt, q⟩
theorem sw_one {op : BoolOp} (ha : ST X M a ma) : SW X M (.BoolOp op [a] pos) ma := by
  intro σ H mσ mh ρ R S mv mh' e k hk Q P
  obtain ⟨t, h1, q⟩ := ha σ H mσ mh ρ R S mv mh' e k hk Q P
  cases op
  · exact ⟨t, pw_and1 h1, q⟩
  · exact ⟨t, pw_or1 h1, q⟩
theorem sw_and {rest : List Expr} (ha : ST X M a ma) (hb : SW X M (.BoolOp .And (b :: rest) pos) mb) : SW X M (.BoolOp .And (a :: b :: rest) pos) (.and_ ma mb) := by
  intro σ H mσ mh ρ R S mv mh' e k hk Q P
  simp only [evE] at e
  obtain ⟨x, h1, e1, e⟩ := bind_ok e
  refine ⟨_, pw_and pt_tT pw_tW, ?_⟩
  split at e
  · refine ha σ H mσ mh ρ R S x h1 e1 true (by assumption) _ fun H1 ρ1 R1 S1 => ?_
    rw [if_pos rfl]
    exact hb σ H1 mσ h1 ρ1 R1 (S.stp R S1) mv mh' e k hk Q fun H2 ρ2 R2 S2 => P H2 ρ2 R2 (S1.trans S2)
  · cases e
    refine ha σ H mσ mh ρ R S _ _ e1 false (by assumption) _ fun H1 ρ1 R1 S1 => ?_
    rw [if_neg Bool.false_ne_true]
    have : k = false := Option.some.inj (hk.symm.trans ‹truth mh' mv = some false›)
    subst this
    exact P H1 ρ1 R1 S1
  · cases e
theorem sw_or {rest : List Expr} (ha : ST X M a ma) (hb : SW X M (.BoolOp .Or (b :: rest) pos) mb) : SW X M (.BoolOp .Or (a :: b :: rest) pos) (.or_ ma mb) := by
  intro σ H mσ mh ρ R S mv mh' e k hk Q P
  simp only [evE] at e
  obtain ⟨x, h1, e1, e⟩ := bind_ok e
  refine ⟨_, pw_or pt_tT pw_tW, ?_⟩
  split at e
  · cases e
    refine ha σ H mσ mh ρ R S _ _ e1 true (by assumption) _ fun H1 ρ1 R1 S1 => ?_
    rw [if_pos rfl]
    have : k = true := Option.some.inj (hk.symm.trans ‹truth mh' mv = some true›)
    subst this
    exact P H1 ρ1 R1 S1
  · refine ha σ H mσ mh ρ R S x h1 e1 false (by assumption) _ fun H1 ρ1 R1 S1 => ?_
    rw [if_neg Bool.false_ne_true]
    exact hb σ H1 mσ h1 ρ1 R1 (S.stp R S1) mv mh' e k hk Q fun H2 ρ2 R2 S2 => P H2 ρ2 R2 (S1.trans S2)
  · cases e
/-! ### arguments, displays -/
theorem sa_nil : SA X M [] [] := by
  intro σ H mσ mh ρ R S vs mh' e Q P
  simp only [evEs] at e
  cases e
  exact ⟨_, pa_nil, P [] H ρ R .nil .refl⟩
theorem sa_cons {es : List Expr} {mes : List ME} (hs : starEach (a :: es) X.env = (false, eval a X.env) :: starEach es X.env) (ha : SE X M a ma) (hr : SA X M es mes) : SA X M (a :: es) (ma :: mes) := by
  intro σ H mσ mh ρ R S vs mh' e Q P
  simp only [evEs] at e
  obtain ⟨x, h1, e1, e⟩ := bind_ok e
  obtain ⟨xs, h2, e2, e⟩ := bind_ok e
  cases e
  refine ⟨_, pa_cons pe_tS pa_tA hs, ?_⟩
  refine ha σ H mσ mh ρ R S x h1 e1 _ fun v H1 ρ1 R1 r1 S1 => ?_
  exact hr σ H1 mσ h1 ρ1 R1 (S.stp R S1) xs _ e2 _ fun ws H2 ρ2 R2 r2 S2 => P _ H2 ρ2 R2 (.cons (r1.stp R1 S2) r2) (S1.trans S2)
theorem se_tup {es : List Expr} {mes : List ME} {n : Nat} (hn : mes.length ≤ lineM) (h : SA X M es mes) : SE X M (.Tuple es n pos) (.tup mes) := by
  intro σ H mσ mh ρ R S mv mh' e Q P
  simp only [evE] at e
  obtain ⟨xs, h1, e1, e⟩ := bind_ok e
  cases e
  refine ⟨_, pe_tup pa_tA, ?_⟩
  have hl := lineM_le
  have hlen : ∀ {mes : List ME} {mσ : MS'} {mh : MH} {xs : List MV} {h1 : MH}, evEs M mes mσ mh = .ok xs h1 → xs.length = mes.length := by
    intro mes
    induction mes with
    | nil => intro _ _ _ _ e; simp only [evEs] at e; cases e; rfl
    | cons m ms ih =>
      intro _ _ _ _ e
      simp only [evEs] at e
      obtain ⟨x, h1, e1, e⟩ := bind_ok e
      obtain ⟨xs, h2, e2, e⟩ := bind_ok e
      cases e
      simp [ih e2]
  refine h σ H mσ mh ρ R S xs _ e1 _ fun ws H1 ρ1 R1 r1 S1 => ⟨?_, fun p hp => (P.after S1).newT R1 r1 hp⟩
  rw [← r1.length, hlen e1]; omega
theorem evEs_len {mes : List ME} {mσ : MS'} {mh : MH} {xs : List MV} {h1 : MH} (e : evEs M mes mσ mh = .ok xs h1) : xs.length = mes.length := by
  induction mes generalizing mσ mh xs h1 with
  | nil => simp only [evEs] at e; cases e; rfl
  | cons m ms ih =>
    simp only [evEs] at e
    obtain ⟨x, h1, e1, e⟩ := bind_ok e
    obtain ⟨xs, h2, e2, e⟩ := bind_ok e
    cases e
    simp [ih e2]
theorem se_lst {es : List Expr} {mes : List ME} (hn : mes.length ≤ lineM) (h : SA X M es mes) : SE X M (.List es pos) (.lst mes) := by
  intro σ H mσ mh ρ R S mv mh' e Q P
  simp only [evE] at e
  obtain ⟨xs, h1, e1, e⟩ := bind_ok e
  cases e
  have hl := lineM_le
  refine ⟨_, pe_lst pa_tA, ?_⟩
  refine h σ H mσ mh ρ R S xs _ e1 _ fun ws H1 ρ1 R1 r1 S1 => ⟨?_, fun p hp => (P.after S1).newL R1 r1 hp⟩
  rw [← r1.length, evEs_len e1]; omega
/-! ### subscripts, slices -/
theorem se_ix (hu : X.A.units + 1 < cLine) (hs : PlainIx b) (hs2 : NoSl b) (ha : SE X M a ma) (hb : SE X M b mb) : SE X M (.Subscript a b pos) (.ix ma mb) := by
  intro σ H mσ mh ρ R S mv mh' e Q P
  simp only [evE] at e
  obtain ⟨x, h1, e1, e⟩ := bind_ok e
  obtain ⟨y, h2, e2, e⟩ := bind_ok e
  by_cases hd : ∃ a kvs, x = .ref a ∧ h2[a]? = some (.dct kvs)
  · obtain ⟨i, kvs, rfl, hd⟩ := hd
    obtain ⟨rfl, hq⟩ := ixSd (X := X) e hd
    refine ⟨_, pe_dget hu pe_tS pe_tS hs2, ?_⟩
    refine ha σ H mσ mh ρ R S _ h1 e1 _ fun v H1 ρ1 R1 r1 S1 => ?_
    refine hb σ H1 mσ h1 ρ1 R1 (S.stp R S1) y _ e2 _ fun w H2 ρ2 R2 r2 S2 => ?_
    obtain ⟨p, u, e3, g, r⟩ := hq ρ2 H2 v w R2 (r1.stp R1 S2) r2
    exact ⟨p, u, e3, g, P _ _ _ R2 r (S1.trans S2)⟩
  · obtain ⟨rfl, hq⟩ := ixS (X := X) e fun a kvs e1 e2 => hd ⟨a, kvs, e1, e2⟩
    refine ⟨_, pe_ix ix_seq pe_tS pe_tS hs, ?_⟩
    refine ha σ H mσ mh ρ R S _ h1 e1 _ fun v H1 ρ1 R1 r1 S1 => ?_
    refine hb σ H1 mσ h1 ρ1 R1 (S.stp R S1) y _ e2 _ fun w H2 ρ2 R2 r2 S2 => ?_
    exact hq ρ2 H2 v w R2 (r1.stp R1 S2) r2 Q fun u r => P _ _ _ R2 r (S1.trans S2)
theorem se_sl {p2 : Pos} (ha : SE X M a ma) : SE X M (.Subscript a (.Slice none none none p2) pos) (.sl ma) := by
  intro σ H mσ mh ρ R S mv mh' e Q P
  simp only [evE] at e
  obtain ⟨x, h1, e1, e⟩ := bind_ok e
  obtain ⟨r, hr, hq⟩ := slS (X := X) e
  refine ⟨_, pe_slice hr pe_tS po_none po_none, ?_⟩
  exact ha σ H mσ mh ρ R S _ h1 e1 _ fun v H1 ρ1 R1 r1 S1 => hq ρ1 H1 v R1 r1 Q (P.after S1)
theorem se_slL {p2 : Pos} (ha : SE X M a ma) (hb : SE X M b mb) : SE X M (.Subscript a (.Slice (some b) none none p2) pos) (.slL ma mb) := by
  intro σ H mσ mh ρ R S mv mh' e Q P
  simp only [evE] at e
  obtain ⟨x, h1, e1, e⟩ := bind_ok e
  obtain ⟨y, h2, e2, e⟩ := bind_ok e
  cases y <;> simp only at e <;> try cases e
  obtain ⟨r, hr, hq⟩ := slS (X := X) e
  refine ⟨_, pe_slice hr pe_tS (po_some pe_tS) po_none, ?_⟩
  refine ha σ H mσ mh ρ R S _ h1 e1 _ fun v H1 ρ1 R1 r1 S1 => ?_
  refine hb σ H1 mσ h1 ρ1 R1 (S.stp R S1) _ _ e2 _ fun w H2 ρ2 R2 r2 S2 => ?_
  cases r2
  exact ⟨_, rfl, hq ρ2 H2 v R2 (r1.stp R1 S2) Q (P.after (S1.trans S2))⟩
theorem se_slH {p2 : Pos} (ha : SE X M a ma) (hb : SE X M b mb) : SE X M (.Subscript a (.Slice none (some b) none p2) pos) (.slH ma mb) := by
  intro σ H mσ mh ρ R S mv mh' e Q P
  simp only [evE] at e
  obtain ⟨x, h1, e1, e⟩ := bind_ok e
  obtain ⟨y, h2, e2, e⟩ := bind_ok e
  cases y <;> simp only at e <;> try cases e
  obtain ⟨r, hr, hq⟩ := slS (X := X) e
  refine ⟨_, pe_slice hr pe_tS po_none (po_some pe_tS), ?_⟩
  refine ha σ H mσ mh ρ R S _ h1 e1 _ fun v H1 ρ1 R1 r1 S1 => ?_
  refine hb σ H1 mσ h1 ρ1 R1 (S.stp R S1) _ _ e2 _ fun w H2 ρ2 R2 r2 S2 => ?_
  cases r2
  exact ⟨_, rfl, hq ρ2 H2 v R2 (r1.stp R1 S2) Q (P.after (S1.trans S2))⟩
theorem se_slB {p2 : Pos} (ha : SE X M a ma) (hb : SE X M b mb) (hc : SE X M c mc) : SE X M (.Subscript a (.Slice (some b) (some c) none p2) pos) (.slB ma mb mc) := by
  intro σ H mσ mh ρ R S mv mh' e Q P
  simp only [evE] at e
  obtain ⟨x, h1, e1, e⟩ := bind_ok e
  obtain ⟨y, h2, e2, e⟩ := bind_ok e
  cases y <;> simp only at e <;> try cases e
  obtain ⟨z, h3, e3, e⟩ := bind_ok e
  cases z <;> simp only at e <;> try cases e
  obtain ⟨r, hr, hq⟩ := slS (X := X) e
  refine ⟨_, pe_slice hr pe_tS (po_some pe_tS) (po_some pe_tS), ?_⟩
  refine ha σ H mσ mh ρ R S _ h1 e1 _ fun v H1 ρ1 R1 r1 S1 => ?_
  refine hb σ H1 mσ h1 ρ1 R1 (S.stp R S1) _ _ e2 _ fun w H2 ρ2 R2 r2 S2 => ?_
  cases r2
  refine ⟨_, rfl, hc σ H2 mσ h2 ρ2 R2 ((S.stp R S1).stp R1 S2) _ _ e3 _ fun w3 H3 ρ3 R3 r3 S3 => ?_⟩
  cases r3
  exact ⟨_, rfl, hq ρ3 H3 v R3 ((r1.stp R1 S2).stp R2 S3) Q (P.after ((S1.trans S2).trans S3))⟩
/-! ### built-ins -/
theorem se_blt {bi : Bi} (hcalm : bi ≠ .len → X.calm = true) (hG : X.A.guards = some []) (hu : X.A.units + 100 < cLine) {es : List Expr} {mes : List ME} {p : Pos} (hg : Gl X bi.nm) (hm : X.mg bi.nm = none)
    (he : starEach (a :: es) X.env = (false, eval a X.env) :: starEach es X.env) (hpl : (backTo pos (starEach es X.env)).any (·.1) = false) (h : SA X M (a :: es) mes) : SE X M (.Call (.Name bi.nm p) (a :: es) [] pos) (.blt bi mes) := by
  intro σ H mσ mh ρ R S mv mh' e Q P
  simp only [evE] at e
  obtain ⟨xs, h1, e1, e⟩ := bind_ok e
  obtain ⟨r, hr, hq⟩ := bltS (X := X) hcalm hG hu e
  have fin : tCB r (tA X (a :: es)) σ H Q := h σ H mσ mh ρ R S xs _ e1 _ fun ws H1 ρ1 R1 r1 S1 => hq ρ1 H1 ws R1 r1 Q (P.after S1)
  cases bi
  case tuple => exact ⟨_, pe_callTy hr hg hm (by decide +kernel) pa_tA (by decide) (by decide) he hpl, fin⟩
  case list => exact ⟨_, pe_callTy hr hg hm (by decide +kernel) pa_tA (by decide) (by decide) he hpl, fin⟩
  case int => exact ⟨_, pe_callTy hr hg hm (by decide +kernel) pa_tA (by decide) (by decide) he hpl, fin⟩
  case str => exact ⟨_, pe_callTy hr hg hm (by decide +kernel) pa_tA (by decide) (by decide) he hpl, fin⟩
  all_goals exact ⟨_, pe_callB hr hg hm (by decide +kernel) pa_tA (by decide) (by decide) he hpl, fin⟩
theorem se_isi {t : Ty} {p p2 : Pos} (hg : Gl X "isinstance") (hm : X.mg "isinstance" = none) (hg2 : Gl X t.nm) (hm2 : X.mg t.nm = none)
    (he : starEach [a, .Name t.nm p2] X.env = (false, eval a X.env) :: starEach [.Name t.nm p2] X.env) (ha : SE X M a ma) : SE X M (.Call (.Name "isinstance" p) [a, .Name t.nm p2] [] pos) (.isi ma t) := by
  intro σ H mσ mh ρ R S mv mh' e Q P
  simp only [evE] at e
  obtain ⟨x, h1, e1, e⟩ := bind_ok e
  obtain ⟨k, e3, rfl, rfl⟩ := ofB_ok e
  have hT : PE X (.Name t.nm p2) (tC (.ty t.tn)) := by
    cases t <;> exact pe_bltn hg2 hm2 (u := .type _) (by decide +kernel) rfl (by decide) (by decide)
  refine ⟨_, pe_callB call_isi hg hm (by decide +kernel) (pa_cons pe_tS (pa_cons hT pa_nil rfl) he) (by decide) (by decide) he rfl, ?_⟩
  refine ha σ H mσ mh ρ R S x _ e1 _ fun v H1 ρ1 R1 r1 S1 => ?_
  obtain ⟨n, h1, h2⟩ := isiS (X := X) e3 R1 r1
  exact ⟨v, .ty t.tn, _, _, _, rfl, .ty _, h1, kit_ty h2, P _ _ _ R1 (.bl _) S1⟩
end
end Mn

set_option maxHeartbeats 1000000
/-! EnT: enumerate over a tuple. -/
namespace PySem
open Sem (wp)
theorem mn_enum_new1 {v : Value} {o : Obj} {H : Heap → Prop} (B : Begins v o H) :
    Meets (Builtin.«enumerate.__new__» ⟨[.type "enumerate", v], []⟩) (fun _ R s => H s.heap ∧
      R (.ok (.ret (.ref (s.heap.push o).objs.size))) { s with heap := (s.heap.push o).push { cls := .type "enumerate", data := .fields #[.none, .bool false, .ref s.heap.objs.size, rawInt 0, .none, .none] } }) :=
  .of_wp fun prog w A R s h => by
    obtain ⟨hp, g, d, tk, os⟩ := s; obtain ⟨h1, h⟩ := h
    have hsub := sub_enumerate
    have q1 : ∀ {A' : Around} {E : Value → Shared → Prop} {Q : Value → Shared → Prop}, Q (.ref hp.objs.size) ⟨hp.push o, g, d, tk, os⟩ → wpAny (model prog w) A' (pyIter v) Q E ⟨hp, g, d, tk, os⟩ :=
      fun q => B.iter prog w _ _ ⟨hp, g, d, tk, os⟩ _ h1 q
    wp_walk using q1
    refine wpAny_stack_any fun st => wpAny_pure ?_
    split
    · rename_i c _ _ _ _ _
      cases (c == Value.type "enumerate")
      · wp_walk using q1
        exact ⟨_, rfl, h⟩
      · wp_walk using q1
        exact ⟨_, rfl, h⟩
    · wp_walk using q1
      exact ⟨_, rfl, h⟩
theorem mn_call_enum {prog : Program} {w : World} {A : Around} {E : Value → Shared → Prop} {s : Shared} {v : Value} {o : Obj} {H : Heap → Prop} {Q : Value → Shared → Prop} (B : Begins v o H) (h1 : H s.heap)
    (h : ∀ h', IsEnum h' (s.heap.objs.size + 1) s.heap.objs.size 0 .none → h'.get? s.heap.objs.size = some o → h'.objs.size = s.heap.objs.size + 2 →
      (∀ b o, s.heap.get? b = some o → h'.get? b = some o) → Q (.ref (s.heap.objs.size + 1)) { s with heap := h' }) :
    wpAny (model prog w) A (call (.type "enumerate") [v]) Q E s := by
  refine callType_new F.called_enumerate (by decide) (F.typeCall_enumerate_1 _) (F.newCall_enumerate_1 _) (fun obj => F.args_object_init_2 obj _) F.entry_enumerate_new
    (mn_enum_new1 B) ⟨h1, ?_⟩
  have hz : (s.heap.push o).objs.size = s.heap.objs.size + 1 := Heap.size_push ..
  show _ ∧ _
  rw [hz]
  have he : IsEnum ((s.heap.push o).push { cls := .type "enumerate", data := .fields #[.none, .bool false, .ref s.heap.objs.size, rawInt 0, .none, .none] }) (s.heap.objs.size + 1) s.heap.objs.size 0 .none := by
    have := Heap.get?_push_size (s.heap.push o) (o := { cls := .type "enumerate", data := .fields #[.none, .bool false, .ref s.heap.objs.size, rawInt 0, .none, .none] }) rfl
    rw [hz] at this; exact this
  refine ⟨⟨_, he, rfl⟩, h _ he (Heap.get?_push_of_some _ (Heap.get?_push_size _ B.free)) (by rw [Heap.size_push, hz]) fun b o x => Heap.get?_push_of_some _ (Heap.get?_push_of_some _ x)⟩
theorem mn_enum_endT {prog : Program} {w : World} {A : Around} {E : Value → Shared → Prop} {s : Shared} {e it l : Addr} {i : Nat} {j : Int} {items : Array Value} {old : Value} {Q : Option Value → Shared → Prop} (hh : A.handled = none)
    (he : IsEnum s.heap e it j old) (hit : s.heap.IsTupleIter it l i) (hl : s.heap.IsTuple l items) (hx : items[i]? = none)
    (hQ : ∀ h', Heap.ExtBut it s.heap h' → Q none { s with heap := h' }) : wpAny (model prog w) A (pyNext (.ref e)) Q E s := by
  have hT : s.TypeIs (.ref e) "enumerate" := ⟨_, he, rfl⟩
  unfold pyNext
  refine wpAny_bind (wpAny_attempt (wpAny_callSpecial?_slot (name := Str.ofString "__next__") hT F.slot_enumerate_next
    (wpAny_call_entry F.slot_enumerate_next hT F.entry_enumerate_next ?_ (F.args_enumerate_next_1 _))))
  show wpAny _ _ (field (.ref e) 2 >>= _) _ _ _
  refine wpAny_bind (wpAny_field he rfl (x := .ref it) rfl ?_)
  refine wpAny_bind (RZ.nextOf_tuple_end hh hit hl hx fun h' x he' hx' => ?_)
  obtain ⟨o, ho, hc⟩ := hx'
  refine wpAny_bind (wpAny_isInstance (T := "StopIteration") (b := true) ⟨o, ho, hc⟩ isSubtype_stop ?_)
  exact wpAny_pure (hQ _ he')
end PySem
namespace Mn
open PySem PySem.Spec PyProof.Rows L2
/-- the tuple at a, each item in a new pair -/
def IteT (K : PySem.W.Frag) (a : Addr) : L2.It :=
  ⟨fun i H => ∃ (xs : List V) (x : V), SqT K H a xs ∧ xs[i]? = some x, fun i H v H' => ∃ T x, v = .ref T ∧ H T = none ∧ H' = upd H T (.tup [.int (i : Nat), x]) ∧ ∀ xs, SqT K H a xs → xs[i]? = some x, fun i H => ∃ xs : List V, SqT K H a xs ∧ xs.length ≤ i⟩
theorem turn_enumT {P : Program} {w : World} {K : PySem.W.Frag} {elts : List Expr} {kk : Nat} {tpos : Pos} (a e it : Addr) :
    Turn P w K (.Tuple elts kk tpos) (IteT K a) [e, it] e (fun i h => (∃ old, IsEnum h e it ((i : Nat) : Int) old) ∧ h.IsTupleIter it a i ∧ e ≠ it ∧ a ≠ it ∧ a ≠ e) where
  mem := by simp
  obj := fun i h st b hb => by
    obtain ⟨⟨old, he⟩, ⟨o, ho, hc, hd⟩, _⟩ := st
    have e' : b = e ∨ b = it := by simpa using hb
    rcases e' with z | z
    · rw [z]; exact ⟨_, he, fun v q => nomatch q⟩
    · rw [z]; exact ⟨o, ho, fun v q => by rw [hd] at q; cases q⟩
  keep := fun i h h' st k => let ⟨⟨old, he⟩, hi, hne⟩ := st; ⟨⟨old, k e (by simp) _ he⟩, hi.at fun o q => k it (by simp) o q, hne⟩
  item := by
    intro X hP hw hK hc i pins s σ H E I hf st hg
    subst hP hw hK
    obtain ⟨⟨old, he⟩, hit, hne, hai, hae⟩ := st
    obtain ⟨xs, x, hq, hx⟩ := hg
    obtain ⟨its, rv, p, hz⟩ := I.tuple hq
    obtain ⟨u, hu, ru⟩ := rv.get hx
    have hel : e < s.heap.objs.size := Heap.lt_size he
    have hil : it < s.heap.objs.size := by obtain ⟨_, q, _⟩ := hit; exact Heap.lt_size q
    have hlt : i < its.toArray.size := by simpa using (List.getElem?_eq_some_iff.mp hu).1
    refine wpAny_pyNext_enum_itemD (Draws.tuple (A := X.A.in1) (I.ok.hd hc) it a hai its.toArray) he ⟨hit, p⟩ hlt hne (by simp [hne, Ne.symm hae]) fun x' h' tk hP ho hst hT hsz hk => ?_
    have hxu : x' = u := by
      have : its[i]? = some x' := by simpa using hP
      exact Option.some.inj (this.symm.trans hu)
    subst hxu
    refine ⟨_, rfl, wpAny_letOwnedTupleGo_enum (s := { s with heap := h', toks := tk + 1 }) ho fun h'' he' sb => ?_⟩
    have hT2 : h''.get? s.heap.objs.size = some { cls := .type "tuple", data := .seq #[.int i tk, x'] } := (sb.2 _ (Nat.ne_of_gt hel)).trans hT
    have new : ObjOk X.prog X.w (upd H s.heap.objs.size (.tup [.int (i : Nat), x])) h'' s.heap.objs.size (.tup [.int (i : Nat), x]) :=
      ⟨by show 2 ≤ sizeLine; decide, [.int i tk, x'], .cons ⟨_, rfl⟩ (.cons ru .nil), ⟨_, hT2, rfl, _, rfl⟩⟩
    have I1 : Inv X pins σ (upd H s.heap.objs.size (.tup [.int (i : Nat), x])) { s with heap := h'', toks := tk + 1 } :=
      I.turnedNew (ch := [e, it]) (fun b ob hb q => (sb.2 b (fun z => hb (by simp [z]))).trans (hk b ob (fun z => hb (by simp [z])) (fun z => hb (by simp [z])) q)) hf (Nat.le_refl _) new
    refine ⟨.ref s.heap.objs.size, _, I1, rfl, ⟨_, x, rfl, I.hok.fresh (Nat.le_refl _), rfl, fun ys hy => by rw [I.tuple_inj hy hq]; exact hx⟩, ⟨⟨x', ?_⟩, hst.1.at fun o q => (sb.2 it (Ne.symm hne)).trans q, hne, hai, hae⟩, fun b hb => ?_⟩
    · have e1 : ((i + 1 : Nat) : Int) = (i : Int) + 1 := by omega
      rw [e1]; exact he'
    · have hb' : b < s.heap.objs.size := by
        have e' : b = e ∨ b = it := by simpa using hb
        rcases e' with z | z
        · rw [z]; exact hel
        · rw [z]; exact hil
      rw [upd_ne (Nat.ne_of_lt hb')]
      exact (hf b hb).1
  done := by
    intro X hP hw hK hc i pins s σ H E I hf st hg
    subst hP hw hK
    obtain ⟨⟨old, he⟩, hit, hne, hai, hae⟩ := st
    obtain ⟨xs, hq, hx⟩ := hg
    obtain ⟨its, rv, p, hz⟩ := I.tuple hq
    obtain ⟨f0, f1, f2, f3, f4, f5⟩ := hf it (by simp)
    have hl := rv.length
    exact mn_enum_endT (I.ok.hd hc) he hit p (by simp; omega) fun h' eb => ⟨rfl, I.turned (t' := s.toks) (fun b o hb q => eb b o hb q) f0 f1 f3 f4 f5⟩
  self := fun A i s Q E st h => let ⟨⟨_, he⟩, _⟩ := st; wpAny_pyIter_enum he h
def iEnumT (K : PySem.W.Frag) (ta : TA) : TI := fun σ H R => ta σ H fun vs H1 => ∃ a xs, vs = [.ref a] ∧ ((SqL K H1 a xs ∧ R (Ite K a) H1) ∨ (SqT K H1 a xs ∧ R (IteT K a) H1))
theorem pi_enumT {X : Cx} {e : Expr} {ta : TA} {p pos tpos : Pos} {elts : List Expr} {kk : Nat} (hg : Gl X "enumerate") (hm : X.mg "enumerate" = none) (ha : PA X [e] ta) (hs : starEach [e] X.env = [(false, eval e X.env)] := by rfl) :
    PI X (.Tuple elts kk tpos) (.Call (.Name "enumerate" p) [e] [] pos) (iEnumT X.K ta) := by
  refine ⟨fun pins s σ H R I h => ?_⟩
  refine Call_ (ld_blt I hg hm boot_enumerate (PyProof.Rows.callWith_type1 (thn (ha.run pos pins s σ H _ I h) fun us s1 ⟨vs, H1, I1, r1, q1⟩ => ?_) hs rfl))
  obtain ⟨a, xs, ex, q1⟩ := q1
  subst ex
  cases r1 with
  | cons r rr =>
    cases rr
    cases r
    rcases q1 with ⟨hq, q⟩ | ⟨hq, q⟩
    · obtain ⟨its, rv, p', hz⟩ := I1.list hq
      refine call_enumerate_list p'.isList fun h' he hit hsz hk => wpAny_pyIter_enum he ?_
      have I2 : Inv X pins σ H1 { s1 with heap := h' } := I1.kept (t' := s1.toks) hk
      refine ⟨s1.heap.objs.size + 1, [s1.heap.objs.size + 1, s1.heap.objs.size], _, _, H1, rfl, I2, turn_enum a (s1.heap.objs.size + 1) s1.heap.objs.size, ⟨⟨.none, he⟩, hit, Nat.succ_ne_self _⟩, fun b hb => ?_, q⟩
      have e' : b = s1.heap.objs.size + 1 ∨ b = s1.heap.objs.size := by simpa using hb
      have hle : s1.heap.objs.size ≤ b := by
        rcases e' with z | z
        · rw [z]; exact Nat.le_add_right _ _
        · rw [z]; exact Nat.le_refl _
      exact I1.fpOk hle (I1.hok.fresh hle)
    · obtain ⟨its, rv, p', hz⟩ := I1.tuple hq
      obtain ⟨o1, ho1, _⟩ := id p'
      have al := Heap.lt_size ho1
      refine mn_call_enum (begins_tuple a its.toArray) p' fun h' he hit hsz hk => wpAny_pyIter_enum he ?_
      have I2 : Inv X pins σ H1 { s1 with heap := h' } := I1.kept (t' := s1.toks) hk
      refine ⟨s1.heap.objs.size + 1, [s1.heap.objs.size + 1, s1.heap.objs.size], _, _, H1, rfl, I2, turn_enumT a (s1.heap.objs.size + 1) s1.heap.objs.size, ⟨⟨.none, he⟩, ⟨_, hit, rfl, rfl⟩, Nat.succ_ne_self _, Nat.ne_of_lt al, Nat.ne_of_lt (Nat.lt_succ_of_lt al)⟩, fun b hb => ?_, q⟩
      have e' : b = s1.heap.objs.size + 1 ∨ b = s1.heap.objs.size := by simpa using hb
      have hle : s1.heap.objs.size ≤ b := by
        rcases e' with z | z
        · rw [z]; exact Nat.le_add_right _ _
        · rw [z]; exact Nat.le_refl _
      exact I1.fpOk hle (I1.hok.fresh hle)
end Mn

/-! RevT: t[::-1] of tuples and lists. -/
namespace Mn
open PySem PySem.Spec PyProof.Rows L2 HT
section
variable {prog : Program} {w : World} {A : Around} {E : Value → Shared → Prop} {s : Shared}
theorem adjust_back (n : Nat) : Builtin.Slice.sliceAdjust none none (-1) (n : Int) = ((n : Int) - 1, -1) := rfl
theorem places_back (n : Nat) : Builtin.Slice.slicePlaces ((n : Int) - 1) (-1) (-1) = n := by
  unfold Builtin.Slice.slicePlaces
  rw [if_neg (by decide)]
  by_cases h : (n : Int) - 1 > -1
  · rw [if_pos h, show (-(-1) : Int) = 1 by decide, Int.ediv_one]
    omega
  · rw [if_neg h]
    omega
theorem slice_back {sl : Addr} {vs : Value} {n : Nat} {Q : Int × Int × Nat → Shared → Prop} (hs : s.heap.IsSliceOf sl .none .none vs) (ps : IsPart vs (some (-1)))
    (h : Q ((n : Int) - 1, -1, n) s) : wpAny (model prog w) A (Builtin.Slice.sliceApplied (.ref sl) (pure (n : Int))) Q E s := by
  obtain ⟨os, hos, hcs, hds⟩ := id hs
  unfold Builtin.Slice.sliceApplied Builtin.Slice.sliceFields
  refine wpAny_bind (wpAny_bind (wpAny_field hos hds (x := .none) rfl (wpAny_bind (wpAny_field hos hds (x := .none) rfl (wpAny_bind (wpAny_field hos hds (x := vs) rfl (wpAny_pure ?_)))))))
  refine wpAny_bind (slicePart_ ps ?_)
  show wpAny _ _ (if ((-1 : Int) == 0) = true then _ else _) _ _ s
  rw [if_neg (by decide)]
  refine wpAny_bind (slicePart_none (wpAny_bind (slicePart_none (wpAny_bind (wpAny_pure ?_)))))
  show wpAny _ _ (pure ((n : Int) - 1, (-1 : Int), Builtin.Slice.slicePlaces ((n : Int) - 1) (-1) (-1))) _ _ s
  rw [places_back]
  exact wpAny_pure h
theorem pick_back (xs : Array Value) : ((List.range xs.size).filterMap fun (m : Nat) => xs[(((xs.size : Int) - 1) + (m : Int) * (-1)).toNat]?).toArray = xs.toList.reverse.toArray := by
  have e : (fun (m : Nat) => xs[(((xs.size : Int) - 1) + (m : Int) * (-1)).toNat]?) = fun m => xs[xs.size - 1 - m]? := by
    funext m
    have : (((xs.size : Int) - 1) + (m : Int) * (-1)).toNat = xs.size - 1 - m := by omega
    rw [this]
  rw [e]
  have h2 : (List.range xs.size).filterMap (fun m => xs[xs.size - 1 - m]?) = ((List.range xs.size).map fun k => xs.size - 1 - k).filterMap (xs[·]?) := by
    rw [List.filterMap_map]; rfl
  rw [h2, PySem.W.krv_range, List.filterMap_reverse, PySem.W.krv_all]
theorem item_back {t sl : Addr} {items : Array Value} {vs : Value} {Q : Value → Shared → Prop} (ht : IsTup s.heap t items) (hs : s.heap.IsSliceOf sl .none .none vs) (ps : IsPart vs (some (-1)))
    (h : Q (.ref s.heap.objs.size) { s with heap := s.heap.push { cls := .type "tuple", data := .seq items.toList.reverse.toArray } })
    (hsz : items.size ≤ sizeLine) : wpAny (model prog w) A (getItem (.ref t) (.ref sl)) Q E s := by
  have htake : sizeOk (.seq items.toList.reverse.toArray) := by
    show items.toList.reverse.toArray.size ≤ sizeLine
    rw [List.size_toArray, List.length_reverse, Array.length_toList]
    exact hsz
  obtain ⟨os, hos, hcs, hds⟩ := id hs
  have hTs : s.TypeIs (.ref sl) "slice" := ⟨os, hos, hcs⟩
  unfold getItem
  try with_reducible refine wpAny_holding ?_
  first | refine wpAny_bind (wpAny_pure ?_) | skip
  refine wpAny_bind (wpAny_sequenceKey ht.typeIs (by decide) ?_)
  refine wpAny_bind (wpAny_callSpecial?_slot (name := Str.ofString "__getitem__") ht.typeIs PyProof.Rows.slot_tuple_getitem
    (wpAny_call_entry PyProof.Rows.slot_tuple_getitem ht.typeIs entry_tuple_getitem ?_ (args_tuple_getitem _ _)))
  show wpAny _ _ (Builtin.Tuple.tupleItemsOf (.ref t) >>= _) _ _ s
  refine wpAny_bind (tupleItemsOf_ ht ?_)
  refine wpAny_bind (wpAny_typeOf hTs ?_)
  rw [if_pos (by decide)]
  refine wpAny_bind (slice_back (n := items.size) hs ps ?_)
  have hno : ¬ ((((items.size : Int) - 1) == 0 && (-1 : Int) == 1 && items.size == items.size) = true) := by
    intro q
    rw [Bool.and_eq_true, Bool.and_eq_true] at q
    exact absurd q.1.2 (by decide)
  show wpAny _ _ (if (((items.size : Int) - 1) == 0 && (-1 : Int) == 1 && items.size == items.size) = true then _ else _) _ _ s
  rw [if_neg hno, pick_back]
  first
    | exact wpAny_bind (m := Builtin.Tuple.tupleExact _) (wpAny_newObj_type (wpAny_pure ⟨_, rfl, wpAny_pure h⟩) htake)
    | exact wpAny_bind (m := Builtin.Tuple.tupleExact _) (wpAny_newObj_type (wpAny_bind (wpAny_pure (wpAny_pure ⟨_, rfl, wpAny_pure h⟩))) htake)
    | exact wpAny_bind (wpAny_bind (m := Builtin.Tuple.tupleExact _) (wpAny_newObj_type (wpAny_pure (wpAny_pure ⟨_, rfl, wpAny_pure h⟩)) htake))
    | exact wpAny_bind (wpAny_bind (m := Builtin.Tuple.tupleExact _) (wpAny_newObj_type (wpAny_pure ⟨_, rfl, wpAny_pure h⟩) htake))
end
section
variable {X : Cx} {M : Cm} {a : Expr} {ma : ME} {pos : Pos}
def tBackT (K : PySem.W.Frag) (te : TE) : TE := fun σ H Q => te σ H fun x H1 => ∃ a xs, x = .ref a ∧ SqT K H1 a xs ∧ ∀ p, H1 p = none → Q (.ref p) (upd H1 p (.tup xs.reverse))
theorem pe_backT {e : Expr} {te : TE} {k : Nat} {p1 p2 p3 pos : Pos} (he : PE X e te) : PE X (.Subscript e (.Slice none none (some (.UnaryOp .USub (.Constant (.int 1) k p1) p2)) p3) pos) (tBackT X.K te) := by
  refine ⟨fun pins s σ H Q I h => ?_⟩
  refine Subscript_ (thn (he.run pins s σ H _ I h) fun v s1 ⟨x, H1, I1, r1, q1⟩ => ?_)
  obtain ⟨a, xs, ex, hx, q⟩ := q1
  subst ex
  cases r1
  have hst : PO X (some (.UnaryOp .USub (.Constant (.int 1) k p1) p2)) (tPart (tUn (rU fun i => .int (-i)) (tC (.int 1)))) := po_some (pe_un un_neg pe_int)
  refine wpAny_Slice (thn (po_none.run pins s1 σ H1 (fun o H2 => o = none ∧ H2 = H1) I1 ⟨rfl, rfl⟩) fun vl s2 ⟨l, H2, I2, pl, el, e2⟩ => ?_)
  subst el e2
  refine thn (po_none.run pins s2 σ H2 (fun o H3 => o = none ∧ H3 = H2) I2 ⟨rfl, rfl⟩) fun vu s3 ⟨u, H3, I3, pu, eu, e3⟩ => ?_
  subst eu e3
  refine thn (hst.run pins s3 σ H3 (fun o H4 => o = some (-1) ∧ H4 = H3) I3 ⟨1, rfl, -1, rfl, rfl, rfl⟩) fun vs s4 ⟨o, H4, I4, ps, eo, e4⟩ => ?_
  subst eo e4
  cases pl
  cases pu
  have I5 : Inv X pins σ H4 { s4 with heap := s4.heap.push { cls := .type "slice", data := .fields #[.none, .none, vs] } } := I4.kept (t' := s4.toks) fun b ob q => Heap.get?_push_of_some _ q
  obtain ⟨its, r, ht, hz⟩ := I5.tuple hx
  have hlen := r.length
  show wpAny (model X.prog X.w) X.A (subscriptTail e (.Slice none none (some (.UnaryOp .USub (.Constant (.int 1) k p1) p2)) p3) (.ref a) (.ref s4.heap.objs.size)) (EP X pins σ Q) X.xe { s4 with heap := s4.heap.push { cls := .type "slice", data := .fields #[.none, .none, vs] } }
  refine tail_any (ops := [.ref a, .ref s4.heap.objs.size]) ht.typeIs PyProof.Rows.slot_tuple_getitem.lookup ?_ (by with_unfolding_all rfl)
  refine item_back ht (Heap.IsSliceOf.new _ .none .none vs) ps ?_ (by rw [List.size_toArray]; omega)
  refine ⟨.ref _, _, I5.laid (t' := s4.toks) (o := .tup xs.reverse) (fun b ob q => Heap.get?_push_of_some _ q) (Nat.le_refl _) ?_, rfl, q _ (I5.hok.fresh (Nat.le_refl _))⟩
  exact ⟨by rw [List.length_reverse]; omega, _, r.reverse, IsTup.new _ _⟩
theorem se_rev {k : Nat} {p1 p2 p3 : Pos} (ha : SE X M a ma) : SE X M (.Subscript a (.Slice none none (some (.UnaryOp .USub (.Constant (.int 1) k p1) p2)) p3) pos) (.rev ma) := by
  intro σ H mσ mh ρ R S mv mh' e Q P
  simp only [evE] at e
  obtain ⟨x, h1, e1, e⟩ := bind_ok e
  unfold revM at e
  split at e
  · cases e
    refine ⟨_, pe_backT pe_tS, ?_⟩
    refine ha σ H mσ mh ρ R S _ _ e1 _ fun v H1 ρ1 R1 r1 S1 => ?_
    cases r1 with
    | tup s r => exact ⟨_, _, rfl, s, fun p hn => (P.after S1).newT R1 r.reverse hn⟩
  · split at e
    · cases e
      rename_i a xs hl
      refine ⟨_, pe_revL pe_tS, ?_⟩
      refine ha σ H mσ mh ρ R S _ _ e1 _ fun v H1 ρ1 R1 r1 S1 => ?_
      cases r1 with
      | ref hp =>
        obtain ⟨vs, s, r⟩ := R1.lsts hp hl
        exact ⟨_, _, rfl, s, fun p hn => (P.after S1).newL R1 r.reverse hn⟩
    · cases e
  · cases e
end
end Mn

set_option maxHeartbeats 4000000
/-! Snd2: what loops walk, comprehensions, calls, statements. -/
namespace Mn
open PySem PySem.Spec PyProof.Rows L2

/-! ### a list that is being made -/
section
variable {K : PySem.W.Frag} {ρ ρ' : List Addr} {mh mh' m0 : MH} {H H' H0 : Hp} {D : Addr} {acc : List V} {ho : HO}
/-- neither a tuple nor locked -/
def Loose : HO → Prop
  | .tup _ => False
  | .frz _ _ => False
  | _ => True
theorem SqT.out {q : Addr} {vs : List V} {o0 : HO} (hD : H D = some o0) (hL : Loose o0) (h : SqT K H q vs) : SqT K (upd H D ho) q vs := by
  rcases h with h | h
  · refine .inl ?_
    rcases h with h | ⟨u, h⟩
    · exact .inl (by rw [upd_ne (ne_of h hD (by intro z; subst z; exact hL))]; exact h)
    · exact .inr ⟨u, by rw [upd_ne (ne_of h hD (by intro z; subst z; exact hL))]; exact h⟩
  · exact .inr h
theorem RepH.out {o0 : HO} (R : RepH K ρ mh H) (hD : H D = some o0) (hL : Loose o0) (nm : ¬ Mu ρ mh D) : RepH K ρ mh (upd H D ho) := by
  have ht : ∀ q vs, SqT K H q vs → SqT K (upd H D ho) q vs := fun q vs h => SqT.out hD hL h
  refine ⟨R.len, R.inj, fun a q o e1 e2 => ?_⟩
  have h := R.obj a q o e1 e2
  have ne : o.mut = true → q ≠ D := fun m z => by subst z; exact nm ⟨a, o, e1, e2, m⟩
  cases o with
  | lst xs => obtain ⟨vs, z, r⟩ := h; exact ⟨vs, by rw [upd_ne (ne rfl)]; exact z, Reps.mono' (List.prefix_refl _) ht _ _ r⟩
  | fro xs => obtain ⟨vs, z, r⟩ := h; exact ⟨vs, z.at fun o u e => by rw [upd_ne (ne_of e hD (by intro z; subst z; exact hL))]; exact e, Reps.mono' (List.prefix_refl _) ht _ _ r⟩
  | dct xs => obtain ⟨vs, z, r⟩ := h; exact ⟨vs, by rw [upd_ne (ne rfl)]; exact z, KReps.mono' (List.prefix_refl _) ht r⟩
theorem Stp.out (S : Stp ρ m0 H0 ρ' mh' H) (hn : H0 D = none) : Stp ρ m0 H0 ρ' mh' (upd H D ho) :=
  ⟨S.pre, S.new, fun p o n e => by rw [upd_ne (ne_of_none e hn)]; exact S.frm p o n e⟩
/-- a place for what was made -/
theorem RepH.adoptO (R : RepH K ρ mh H) {mo : MO} (nm : ¬ Mu ρ mh D) (r : RepO K (ρ ++ [D]) H mo D) : RepH K (ρ ++ [D]) (mh ++ [mo]) H := by
  have pre : ρ <+: ρ ++ [D] := List.prefix_append _ _
  have ht : ∀ q vs, SqT K H q vs → SqT K H q vs := fun _ _ h => h
  have split : ∀ (a : Nat) (q : Addr) (u : MO), (ρ ++ [D])[a]? = some q → (mh ++ [mo])[a]? = some u → (ρ[a]? = some q ∧ mh[a]? = some u) ∨ (a = ρ.length ∧ q = D ∧ u = mo) := fun a q u e1 e2 => by
    by_cases h : a < ρ.length
    · rw [List.getElem?_append_left h] at e1
      rw [List.getElem?_append_left (by rw [← R.len]; exact h)] at e2
      exact .inl ⟨e1, e2⟩
    · have h1 : a < (ρ ++ [D]).length := (List.getElem?_eq_some_iff.mp e1).1
      have h2 : a = ρ.length := by simp at h1; omega
      subst h2
      simp at e1
      rw [R.len] at e2
      simp at e2
      exact .inr ⟨rfl, e1.symm, e2.symm⟩
  refine ⟨by simp [R.len], fun a b q oa ob e1 e2 e3 e4 m1 m2 => ?_, fun a q u e1 e2 => ?_⟩
  · rcases split a q oa e1 e3 with ⟨h1, h2⟩ | ⟨rfl, rfl, rfl⟩
    · rcases split b q ob e2 e4 with ⟨h3, h4⟩ | ⟨rfl, rfl, rfl⟩
      · exact R.inj a b q oa ob h1 h3 h2 h4 m1 m2
      · exact absurd ⟨a, oa, h1, h2, m1⟩ nm
    · rcases split b q ob e2 e4 with ⟨h3, h4⟩ | ⟨rfl, _, rfl⟩
      · exact absurd ⟨b, ob, h3, h4, m2⟩ nm
      · rfl
  · rcases split a q u e1 e2 with ⟨h1, h2⟩ | ⟨rfl, rfl, rfl⟩
    · have h := R.obj a q u h1 h2
      cases u with
      | lst xs => obtain ⟨vs, z, r⟩ := h; exact ⟨vs, z, Reps.mono' pre ht _ _ r⟩
      | fro xs => obtain ⟨vs, z, r⟩ := h; exact ⟨vs, z, Reps.mono' pre ht _ _ r⟩
      | dct xs => obtain ⟨vs, z, r⟩ := h; exact ⟨vs, z, KReps.mono' pre ht r⟩
    · exact r
theorem RepH.adopt (R : RepH K ρ mh H) {xs : List MV} (hD : H D = some (.lst acc)) (nm : ¬ Mu ρ mh D) (r : Reps K ρ H xs acc) : RepH K (ρ ++ [D]) (mh ++ [.lst xs]) H :=
  R.adoptO nm ⟨acc, hD, Reps.mono' (List.prefix_append _ _) (fun _ _ h => h) _ _ r⟩
theorem Mu.app {mo : MO} {p : Addr} (hl : ρ.length = mh.length) (m : Mu (ρ ++ [D]) (mh ++ [mo]) p) : Mu ρ mh p ∨ p = D := by
  obtain ⟨a, o, e1, e2, e3⟩ := m
  by_cases h : a < ρ.length
  · rw [List.getElem?_append_left h] at e1
    rw [List.getElem?_append_left (by rw [← hl]; exact h)] at e2
    exact .inl ⟨a, o, e1, e2, e3⟩
  · have h1 : a < (ρ ++ [D]).length := (List.getElem?_eq_some_iff.mp e1).1
    have h2 : a = ρ.length := by simp at h1; omega
    subst h2
    simp at e1
    exact .inr e1.symm
theorem Stp.adopt (S : Stp ρ m0 H0 ρ' mh' H) {mo : MO} (hl : ρ'.length = mh'.length) (hn : H0 D = none) : Stp ρ m0 H0 (ρ' ++ [D]) (mh' ++ [mo]) H :=
  ⟨S.pre.trans (List.prefix_append _ _), fun p m => by
    rcases m.app hl with m | rfl
    · exact S.new p m
    · exact .inr hn, S.frm⟩
/-- a fresh thing of no place -/
theorem RepH.fresh (R : RepH K ρ mh H) (hn : H D = none) : RepH K ρ mh (upd H D ho) ∧ ¬ Mu ρ mh D ∧ ∀ {xs vs}, Reps K ρ H xs vs → Reps K ρ (upd H D ho) xs vs := by
  have ht : ∀ q vs, SqT K H q vs → SqT K (upd H D ho) q vs := fun q vs h => by
    rcases h with h | h
    · refine .inl ?_
      rcases h with h | ⟨u, h⟩
      · exact .inl (by rw [upd_ne (ne_of_none h hn)]; exact h)
      · exact .inr ⟨u, by rw [upd_ne (ne_of_none h hn)]; exact h⟩
    · exact .inr h
  refine ⟨⟨R.len, R.inj, fun a q o f1 f2 => ?_⟩, fun m => ?_, fun r => Reps.mono' (List.prefix_refl _) ht _ _ r⟩
  · have h := R.obj a q o f1 f2
    cases o with
    | lst xs => obtain ⟨vs, z, r⟩ := h; exact ⟨vs, by rw [upd_ne (ne_of_none z hn)]; exact z, Reps.mono' (List.prefix_refl _) ht _ _ r⟩
    | fro xs => obtain ⟨vs, z, r⟩ := h; exact ⟨vs, z.at fun o u e => by rw [upd_ne (ne_of_none e hn)]; exact e, Reps.mono' (List.prefix_refl _) ht _ _ r⟩
    | dct xs => obtain ⟨vs, z, r⟩ := h; exact ⟨vs, by rw [upd_ne (ne_of_none z hn)]; exact z, KReps.mono' (List.prefix_refl _) ht r⟩
  · rcases R.mu m with ⟨_, z⟩ | ⟨_, z⟩ <;> (rw [hn] at z; cases z)
end

/-! ### what is walked -/
def ItOk (K : PySem.W.Frag) (it : It) (ρ0 : List Addr) (m0 : MH) (H0 : Hp) (J : L2.It) : Prop :=
  ∀ ρ mh H, RepH K ρ mh H → Stp ρ0 m0 H0 ρ mh H → ∀ i, (∀ n mv, turnI it mh i n = some mv → J.go i H ∧ ∀ x H', J.yld i H x H' → ∃ ρ', RepH K ρ' mh H' ∧ Stp ρ mh H ρ' mh H' ∧ Rep K ρ' H' mv x) ∧ (doneI it mh i = true → J.stop i H)
def tIt (X : Cx) (tg iter : Expr) : TI := fun σ H R => ∃ wi, PI X tg iter wi ∧ wi σ H R
theorem pi_tIt {X : Cx} {tg iter : Expr} : PI X tg iter (tIt X tg iter) := ⟨fun pins s σ H R I ⟨_, h, q⟩ => h.run pins s σ H R I q⟩
def SI (X : Cx) (M : Cm) (tg iter : Expr) (ik : IK) (ma mb : ME) : Prop :=
  ∀ σ H mσ mh ρ, RepH X.K ρ mh H → RepS X M ρ H mσ σ → ∀ x h1 y h2 it, evE M ma mσ mh = .ok x h1 → evE M mb mσ h1 = .ok y h2 → itM ik x y h2 = some it →
    ∀ R : L2.It → Hp → Prop, (∀ J H' ρ', RepH X.K ρ' h2 H' → Stp ρ mh H ρ' h2 H' → ItOk X.K it ρ' h2 H' J → R J H') → tIt X tg iter σ H R
theorem turn_some {it : It} {h : MH} {i n : Nat} {mv : MV} (e : turnI it h i n = some mv) : ∃ xs, it.items h = some xs ∧ xs[i]? = some mv := by
  unfold turnI at e
  cases q : it.items h with
  | none => rw [q] at e; cases e
  | some xs =>
    rw [q] at e
    simp only [Option.bind_some] at e
    split at e
    · exact ⟨xs, rfl, e⟩
    · cases e
theorem done_some {it : It} {h : MH} {i : Nat} (e : doneI it h i = true) : ∃ xs, it.items h = some xs ∧ xs.length = i := by
  unfold doneI at e
  split at e
  · exact ⟨_, by assumption, by simpa using e⟩
  · cases e
section
variable {X : Cx} {M : Cm} {a b : Expr} {ma mb : ME} {tg : Expr} {K : PySem.W.Frag}
theorem itOk_tup {ρ0 : List Addr} {m0 : MH} {H0 : Hp} {p : Addr} {xs : List MV} {vs : List V} (R0 : RepH K ρ0 m0 H0) (s : SqT K H0 p vs) (r : Reps K ρ0 H0 xs vs) : ItOk K (.fix xs) ρ0 m0 H0 (Itt K p) := by
  intro ρ mh H R S i
  have s' := SqT.stp R0 S s
  have r' := r.stp R0 S
  refine ⟨fun n mv e => ?_, fun e => ?_⟩
  · obtain ⟨ys, h1, h2⟩ := turn_some e
    cases h1
    obtain ⟨v, g, hv⟩ := r'.get h2
    refine ⟨⟨vs, v, s', g⟩, fun x H' y => ?_⟩
    obtain ⟨rfl, y⟩ := y
    have : v = x := Option.some.inj (g.symm.trans (y vs s'))
    subst this
    exact ⟨ρ, R, .refl, hv⟩
  · obtain ⟨ys, h1, h2⟩ := done_some e
    cases h1
    exact ⟨vs, s', by rw [← r.length]; omega⟩
theorem itOk_live {ρ0 : List Addr} {m0 : MH} {H0 : Hp} {p : Addr} {l : Nat} (hp : ρ0[l]? = some p) : ItOk K (.live l) ρ0 m0 H0 (Itl K p) := by
  intro ρ mh H R S i
  have hp' := prefix_get S.pre hp
  refine ⟨fun n mv e => ?_, fun e => ?_⟩
  · obtain ⟨ys, h1, h2⟩ := turn_some e
    obtain ⟨vs, s', r'⟩ := R.lsts hp' h1
    obtain ⟨v, g, hv⟩ := r'.get h2
    refine ⟨⟨vs, v, s', g⟩, fun x H' y => ?_⟩
    obtain ⟨rfl, y⟩ := y
    have : v = x := Option.some.inj (g.symm.trans (y vs s'))
    subst this
    exact ⟨ρ, R, .refl, hv⟩
  · obtain ⟨ys, h1, h2⟩ := done_some e
    obtain ⟨vs, s', r'⟩ := R.lsts hp' h1
    exact ⟨vs, s', by rw [← r'.length]; omega⟩
theorem itOk_rng {ρ0 : List Addr} {m0 : MH} {H0 : Hp} {lo : Int} {n : Nat} : ItOk K (.fix (rngI lo n)) ρ0 m0 H0 (Itr lo n) := by
  intro ρ mh H R S i
  refine ⟨fun m mv e => ?_, fun e => ?_⟩
  · obtain ⟨ys, h1, h2⟩ := turn_some e
    cases h1
    have hlt : i < n := by
      have := (List.getElem?_eq_some_iff.mp h2).1
      simpa [rngI] using this
    have hv : mv = .int (lo + (i : Nat)) := by
      simp [rngI, List.getElem?_map, List.getElem?_range hlt] at h2
      exact h2.symm
    subst hv
    refine ⟨hlt, fun x H' y => ?_⟩
    obtain ⟨rfl, rfl⟩ := y
    exact ⟨ρ, R, .refl, .int _⟩
  · obtain ⟨ys, h1, h2⟩ := done_some e
    cases h1
    simp [rngI] at h2
    show n ≤ i
    omega
theorem si_val (ha : SE X M a ma) : SI X M tg a .val ma (.c .non) := by
  intro σ H mσ mh ρ R S x h1 y h2 it e1 e2 e3 Q P
  simp only [evE] at e2
  cases e2
  cases x with
  | tup xs =>
    simp only [itM, Option.some.injEq] at e3
    subst e3
    refine ⟨_, pi_tup pe_tS, ha σ H mσ mh ρ R S _ _ e1 _ fun v H1 ρ1 R1 r1 S1 => ?_⟩
    cases r1 with
    | tup s r => exact ⟨_, rfl, ⟨_, s⟩, P _ _ ρ1 R1 S1 (itOk_tup R1 s r)⟩
  | ref l =>
    simp only [itM] at e3
    cases hl : lsts h1 l with
    | none => rw [hl] at e3; cases e3
    | some xs =>
      rw [hl] at e3
      cases e3
      refine ⟨_, pi_list pe_tS, ha σ H mσ mh ρ R S _ _ e1 _ fun v H1 ρ1 R1 r1 S1 => ?_⟩
      cases r1 with
      | ref hp =>
        obtain ⟨vs, s, r⟩ := R1.lsts hp hl
        exact ⟨_, rfl, ⟨_, s⟩, P _ _ ρ1 R1 S1 (itOk_live hp)⟩
  | _ => simp [itM] at e3
theorem si_rng1 {p pos : Pos} (hg : Gl X "range") (hm : X.mg "range" = none) (hs : starEach [a] X.env = (false, eval a X.env) :: starEach [] X.env) (ha : SE X M a ma) : SI X M tg (.Call (.Name "range" p) [a] [] pos) .rng1 ma (.c .non) := by
  intro σ H mσ mh ρ R S x h1 y h2 it e1 e2 e3 Q P
  simp only [evE] at e2
  cases e2
  cases x <;> simp only [itM] at e3 <;> try cases e3
  split at e3
  · cases e3
    rename_i hj
    refine ⟨_, pi_range1 hg hm (pa_cons pe_tS pa_nil hs) hs, ha σ H mσ mh ρ R S _ _ e1 _ fun v H1 ρ1 R1 r1 S1 => ?_⟩
    cases r1
    exact ⟨_, rfl, hj.1, hj.2, P _ _ ρ1 R1 S1 itOk_rng⟩
  · cases e3
theorem si_rng2 {p pos : Pos} (hg : Gl X "range") (hm : X.mg "range" = none) (hs : starEach [a, b] X.env = (false, eval a X.env) :: starEach [b] X.env) (hs2 : starEach [b] X.env = (false, eval b X.env) :: starEach [] X.env)
    (ha : SE X M a ma) (hb : SE X M b mb) : SI X M tg (.Call (.Name "range" p) [a, b] [] pos) .rng2 ma mb := by
  intro σ H mσ mh ρ R S x h1 y h2 it e1 e2 e3 Q P
  cases x <;> simp only [itM] at e3 <;> try cases e3
  cases y <;> simp only at e3 <;> try cases e3
  split at e3
  · cases e3
    rename_i hj
    refine ⟨_, pi_range2 hg hm (pa_cons pe_tS (pa_cons pe_tS pa_nil hs2) hs) (by rw [hs, hs2]; rfl) (by rw [hs2]; rfl), ha σ H mσ mh ρ R S _ _ e1 _ fun v H1 ρ1 R1 r1 S1 => ?_⟩
    refine hb σ H1 mσ h1 ρ1 R1 (S.stp R S1) _ _ e2 _ fun w H2 ρ2 R2 r2 S2 => ?_
    cases r1; cases r2
    exact ⟨_, _, rfl, ⟨hj.1.1, hj.1.2, hj.2.1, hj.2.2⟩, P _ _ ρ2 R2 (S1.trans S2) itOk_rng⟩
  · cases e3
/-! ### enumerate, zip: the items come in new pairs -/
theorem pair_rep {ρ : List Addr} {mh : MH} {H : Hp} {T : Addr} {mx my : MV} {x y : V} (R : RepH K ρ mh H) (hn : H T = none) (rx : Rep K ρ H mx x) (ry : Rep K ρ H my y) :
    RepH K ρ mh (upd H T (.tup [x, y])) ∧ Stp ρ mh H ρ mh (upd H T (.tup [x, y])) ∧ Rep K ρ (upd H T (.tup [x, y])) (.tup [mx, my]) (.ref T) := R.tupl hn (.cons rx (.cons ry .nil))
theorem enum_get {xs : List MV} {i : Nat} {m : MV} (e : (enumI xs)[i]? = some m) : ∃ x, xs[i]? = some x ∧ m = .tup [.int (i : Nat), x] := by
  simp only [enumI, List.getElem?_mapIdx] at e
  cases h : xs[i]? with
  | none => rw [h] at e; cases e
  | some x => rw [h] at e; cases e; exact ⟨x, rfl, rfl⟩
theorem itOk_enumL {ρ0 : List Addr} {m0 : MH} {H0 : Hp} {p : Addr} {l : Nat} (hp : ρ0[l]? = some p) : ItOk K (.enumL l) ρ0 m0 H0 (Ite K p) := by
  intro ρ mh H R S i
  have hp' := prefix_get S.pre hp
  have it : ∀ ys, (It.enumL l).items mh = some ys → ∃ xs, lsts mh l = some xs ∧ ys = enumI xs := fun ys h => by
    simp only [It.items] at h
    cases q : lsts mh l with
    | none => rw [q] at h; cases h
    | some xs => rw [q] at h; cases h; exact ⟨xs, rfl, rfl⟩
  refine ⟨fun n mv e => ?_, fun e => ?_⟩
  · obtain ⟨ys, h1, h2⟩ := turn_some e
    obtain ⟨xs, g1, rfl⟩ := it ys h1
    obtain ⟨m, h3, rfl⟩ := enum_get h2
    obtain ⟨vs, s', r'⟩ := R.lsts hp' g1
    obtain ⟨v, g, hv⟩ := r'.get h3
    refine ⟨⟨vs, v, s', g⟩, fun x H' y => ?_⟩
    obtain ⟨T, z, rfl, hn, rfl, y⟩ := y
    have : v = z := Option.some.inj (g.symm.trans (y vs s'))
    subst this
    obtain ⟨a1, a2, a3⟩ := pair_rep R hn (.int (i : Nat)) hv
    exact ⟨ρ, a1, a2, a3⟩
  · obtain ⟨ys, h1, h2⟩ := done_some e
    obtain ⟨xs, g1, rfl⟩ := it ys h1
    obtain ⟨vs, s', r'⟩ := R.lsts hp' g1
    exact ⟨vs, s', by rw [← r'.length]; simp [enumI] at h2; omega⟩
theorem zip_get {xs ys : List MV} {i : Nat} {m : MV} (e : (zipI xs ys)[i]? = some m) : ∃ x y, xs[i]? = some x ∧ ys[i]? = some y ∧ m = .tup [x, y] := by
  simp only [zipI, List.getElem?_zipWith] at e
  split at e
  · cases e; exact ⟨_, _, by assumption, by assumption, rfl⟩
  · cases e
theorem itOk_zipL {ρ0 : List Addr} {m0 : MH} {H0 : Hp} {p q : Addr} {l k : Nat} (hp : ρ0[l]? = some p) (hq : ρ0[k]? = some q) : ItOk K (.zipLL l k) ρ0 m0 H0 (Itz K p q) := by
  intro ρ mh H R S i
  have hp' := prefix_get S.pre hp
  have hq' := prefix_get S.pre hq
  have it : ∀ zs, (It.zipLL l k).items mh = some zs → ∃ xs ys, lsts mh l = some xs ∧ lsts mh k = some ys ∧ zs = zipI xs ys := fun zs h => by
    simp only [It.items] at h
    split at h
    · cases h; exact ⟨_, _, by assumption, by assumption, rfl⟩
    · cases h
  refine ⟨fun n mv e => ?_, fun e => ?_⟩
  · obtain ⟨zs, h1, h2⟩ := turn_some e
    obtain ⟨xs, ys, g1, g1', rfl⟩ := it zs h1
    obtain ⟨m, m', h3, h4, rfl⟩ := zip_get h2
    obtain ⟨vs, s', r'⟩ := R.lsts hp' g1
    obtain ⟨ws, s2, r2⟩ := R.lsts hq' g1'
    obtain ⟨v, g, hv⟩ := r'.get h3
    obtain ⟨w, g2, hw⟩ := r2.get h4
    refine ⟨⟨vs, ws, v, w, s', s2, g, g2⟩, fun x H' y => ?_⟩
    obtain ⟨T, z, z2, rfl, hn, rfl, y1, y2⟩ := y
    have : v = z := Option.some.inj (g.symm.trans (y1 vs s'))
    subst this
    have : w = z2 := Option.some.inj (g2.symm.trans (y2 ws s2))
    subst this
    obtain ⟨a1, a2, a3⟩ := pair_rep R hn hv hw
    exact ⟨ρ, a1, a2, a3⟩
  · obtain ⟨zs, h1, h2⟩ := done_some e
    obtain ⟨xs, ys, g1, g1', rfl⟩ := it zs h1
    obtain ⟨vs, s', r'⟩ := R.lsts hp' g1
    obtain ⟨ws, s2, r2⟩ := R.lsts hq' g1'
    exact ⟨vs, ws, s', s2, by rw [← r'.length, ← r2.length]; simp [zipI] at h2; omega⟩
theorem itOk_zipF {ρ0 : List Addr} {m0 : MH} {H0 : Hp} {p q : Addr} {xs ys : List MV} {vs ws : List V} (R0 : RepH K ρ0 m0 H0) (s : SqT K H0 p vs) (r : Reps K ρ0 H0 xs vs) (s2 : SqT K H0 q ws) (r2 : Reps K ρ0 H0 ys ws) : ItOk K (.zipFF xs ys) ρ0 m0 H0 (RZ.ItzT K p q) := by
  intro ρ mh H R S i
  have s' := SqT.stp R0 S s
  have r' := r.stp R0 S
  have s2' := SqT.stp R0 S s2
  have r2' := r2.stp R0 S
  refine ⟨fun n mv e => ?_, fun e => ?_⟩
  · obtain ⟨zs, h1, h2⟩ := turn_some e
    cases h1
    obtain ⟨m, m', h3, h4, rfl⟩ := zip_get h2
    obtain ⟨v, g, hv⟩ := r'.get h3
    obtain ⟨w, g2, hw⟩ := r2'.get h4
    refine ⟨⟨vs, ws, v, w, s', s2', g, g2⟩, fun x H' y => ?_⟩
    obtain ⟨T, z, z2, rfl, hn, rfl, y1, y2⟩ := y
    have : v = z := Option.some.inj (g.symm.trans (y1 vs s'))
    subst this
    have : w = z2 := Option.some.inj (g2.symm.trans (y2 ws s2'))
    subst this
    obtain ⟨a1, a2, a3⟩ := pair_rep R hn hv hw
    exact ⟨ρ, a1, a2, a3⟩
  · obtain ⟨zs, h1, h2⟩ := done_some e
    cases h1
    exact ⟨vs, ws, s', s2', by rw [← r.length, ← r2.length]; simp [zipI] at h2; omega⟩
theorem itOk_enumF {ρ0 : List Addr} {m0 : MH} {H0 : Hp} {p : Addr} {xs : List MV} {vs : List V} (R0 : RepH K ρ0 m0 H0) (s : SqT K H0 p vs) (r : Reps K ρ0 H0 xs vs) : ItOk K (.enumF xs) ρ0 m0 H0 (IteT K p) := by
  intro ρ mh H R S i
  have s' := SqT.stp R0 S s
  have r' := r.stp R0 S
  refine ⟨fun n mv e => ?_, fun e => ?_⟩
  · obtain ⟨ys, h1, h2⟩ := turn_some e
    cases h1
    obtain ⟨m, h3, rfl⟩ := enum_get h2
    obtain ⟨v, g, hv⟩ := r'.get h3
    refine ⟨⟨vs, v, s', g⟩, fun x H' y => ?_⟩
    obtain ⟨T, z, rfl, hn, rfl, y⟩ := y
    have : v = z := Option.some.inj (g.symm.trans (y vs s'))
    subst this
    obtain ⟨a1, a2, a3⟩ := pair_rep R hn (.int (i : Nat)) hv
    exact ⟨ρ, a1, a2, a3⟩
  · obtain ⟨ys, h1, h2⟩ := done_some e
    cases h1
    exact ⟨vs, s', by rw [← r.length]; simp [enumI] at h2; omega⟩
theorem si_enum {p pos tpos : Pos} {elts : List Expr} {kk : Nat} (hg : Gl X "enumerate") (hm : X.mg "enumerate" = none) (hs : starEach [a] X.env = (false, eval a X.env) :: starEach [] X.env) (ha : SE X M a ma) : SI X M (.Tuple elts kk tpos) (.Call (.Name "enumerate" p) [a] [] pos) .enum ma (.c .non) := by
  intro σ H mσ mh ρ R S x h1 y h2 it e1 e2 e3 Q P
  simp only [evE] at e2
  cases e2
  cases x with
  | tup xs =>
    simp only [itM, Option.some.injEq] at e3
    subst e3
    refine ⟨_, pi_enumT hg hm (pa_cons pe_tS pa_nil hs) hs, ha σ H mσ mh ρ R S _ _ e1 _ fun v H1 ρ1 R1 r1 S1 => ?_⟩
    cases r1 with
    | tup s r => exact ⟨_, _, rfl, .inr ⟨s, P _ _ ρ1 R1 S1 (itOk_enumF R1 s r)⟩⟩
  | ref l =>
    simp only [itM] at e3
    cases hl : lsts h1 l with
    | none => rw [hl] at e3; cases e3
    | some xs =>
      rw [hl] at e3
      cases e3
      refine ⟨_, pi_enumT hg hm (pa_cons pe_tS pa_nil hs) hs, ha σ H mσ mh ρ R S _ _ e1 _ fun v H1 ρ1 R1 r1 S1 => ?_⟩
      cases r1 with
      | ref hp =>
        obtain ⟨vs, s, r⟩ := R1.lsts hp hl
        exact ⟨_, _, rfl, .inl ⟨s, P _ _ ρ1 R1 S1 (itOk_enumL hp)⟩⟩
  | _ => simp [itM] at e3
/-! ### targets -/
def tGt (X : Cx) (tg : Expr) : TG := fun v σ H Q => ∃ t, PG X tg t ∧ t v σ H Q
def tGts (X : Cx) (tgs : List Expr) : TGs := fun v σ H Q => ∃ t, PGs X tgs t ∧ t v σ H Q
theorem pg_tGt {X : Cx} {tg : Expr} : PG X tg (tGt X tg) := ⟨fun pins s σ H v u Q I r ⟨_, h, q⟩ => h.run pins s σ H v u Q I r q⟩
def SG (X : Cx) (M : Cm) (tg : Expr) (mt : MT) : Prop :=
  ∀ σ H mσ mσ' mh ρ v mv, RepH X.K ρ mh H → RepS X M ρ H mσ σ → Rep X.K ρ H mv v → asgT mt mv mσ = some mσ' → ∀ Q : L2.St → Hp → Prop,
    (∀ σ', RepS X M ρ H mσ' σ' → (∀ i, i ∉ mt.slots → σ'[i]? = σ[i]?) → Q σ' H) → tGt X tg v σ H Q
def SGs (X : Cx) (M : Cm) (tgs : List Expr) (mts : List MT) : Prop :=
  ((assignEach tgs X.env).length = mts.length ∧ (assignEach tgs X.env).findIdx? (·.1) = none) ∧
  ∀ σ H mσ mσ' mh ρ vs mvs, RepH X.K ρ mh H → RepS X M ρ H mσ σ → Reps X.K ρ H mvs vs → mvs.length = mts.length → asgTs mts mvs mσ = some mσ' → ∀ Q : L2.St → Hp → Prop,
    (∀ σ', RepS X M ρ H mσ' σ' → (∀ i, i ∉ MT.slotss mts → σ'[i]? = σ[i]?) → Q σ' H) → tGts X tgs vs σ H Q
theorem pgs_tGts {X : Cx} {tgs : List Expr} : PGs X tgs (tGts X tgs) := ⟨fun pins s σ H v u Q I r ⟨_, h, q⟩ => h.run pins s σ H v u Q I r q⟩
theorem sg_nm {i : Nat} (hek : ∀ c fs k, M.ex = some (c, fs, k) → k ≠ i) {x : Str} {pos : Pos} (hN : X.N.Nodup) (hi : X.N[i]? = some x) (hx : Loc X.env.scope x) (hf : X.fn x = true ∨ X.env.scope.names.lookup x = some .local) : SG X M (.Name x pos) (.nm i) := by
  intro σ H mσ mσ' mh ρ v mv R S r e Q P
  simp only [asgT, Option.some.injEq] at e
  subst e
  exact ⟨_, pg_name hN hi hx hf, P _ (S.set r i hek) fun j hj => List.getElem?_set_ne (by simp [MT.slots] at hj; omega)⟩
theorem sgs_nil : SGs X M [] [] := by
  refine ⟨⟨rfl, rfl⟩, fun σ H mσ mσ' mh ρ vs mvs R S r hl e Q P => ?_⟩
  simp only [asgTs, Option.some.injEq] at e
  subst e
  cases mvs with
  | nil => cases r; exact ⟨_, pgs_nil, rfl, P _ S fun _ _ => rfl⟩
  | cons _ _ => simp at hl
theorem sgs_cons {t : Expr} {ts : List Expr} {mt : MT} {mts : List MT} (hs : assignEach (t :: ts) X.env = (false, assign t X.env) :: assignEach ts X.env) (h1 : SG X M t mt) (h2 : SGs X M ts mts) : SGs X M (t :: ts) (mt :: mts) := by
  obtain ⟨⟨g1, g2⟩, g3⟩ := h2
  refine ⟨⟨by rw [hs]; simp [g1], by rw [hs]; simp [List.findIdx?_cons, g2]⟩, fun σ H mσ mσ' mh ρ vs mvs R S r hl e Q P => ?_⟩
  cases mvs with
  | nil => simp at hl
  | cons m ms =>
    cases r with
    | cons ra rb =>
      simp only [asgTs] at e
      cases q : asgT mt m mσ with
      | none => rw [q] at e; cases e
      | some mσ1 =>
        rw [q] at e
        refine ⟨_, pgs_cons pg_tGt pgs_tGts (by rw [hs]; rfl), _, _, rfl, ?_⟩
        refine h1 σ H mσ mσ1 mh ρ _ m R S ra q _ fun σ1 S1 k1 => ?_
        refine g3 σ1 H mσ1 mσ' mh ρ _ ms R S1 rb (by simpa using hl) e _ fun σ2 S2 k2 => ?_
        refine P σ2 S2 fun i hi => ?_
        simp only [MT.slotss, List.mem_append, not_or] at hi
        rw [k2 i hi.2, k1 i hi.1]
theorem sg_tp {ts : List Expr} {mts : List MT} {n : Nat} {pos : Pos} (hc : X.calm = true) (h : SGs X M ts mts) : SG X M (.Tuple ts n pos) (.tp mts) := by
  intro σ H mσ mσ' mh ρ v mv R S r e Q P
  obtain ⟨⟨g1, g2⟩, g3⟩ := h
  cases r <;> simp only [asgT] at e <;> try cases e
  rename_i xs p vs s r
  split at e
  · rename_i hl
    refine ⟨_, pg_tup hc pgs_tGts g1 g2, p, vs, rfl, s, by rw [← r.length]; exact hl, ?_⟩
    exact g3 σ H mσ mσ' mh ρ vs xs R S r hl e Q P
  · cases e
mutual
theorem asgT_len : ∀ {mt : MT} {v : MV} {σ σ' : MS'}, asgT mt v σ = some σ' → σ'.length = σ.length
  | .nm i, v, σ, σ', e => by simp only [asgT, Option.some.injEq] at e; subst e; simp
  | .tp ts, v, σ, σ', e => by
    cases v <;> simp only [asgT] at e <;> try cases e
    split at e
    · exact asgTs_len e
    · cases e
theorem asgTs_len : ∀ {mt : List MT} {v : List MV} {σ σ' : MS'}, asgTs mt v σ = some σ' → σ'.length = σ.length
  | [], v, σ, σ', e => by simp only [asgTs, Option.some.injEq] at e; subst e; rfl
  | t :: ts, [], σ, σ', e => by simp [asgTs] at e
  | t :: ts, x :: xs, σ, σ', e => by
    simp only [asgTs] at e
    cases q : asgT t x σ with
    | none => rw [q] at e; cases e
    | some σ1 => rw [q] at e; rw [asgTs_len (mt := ts) (v := xs) e, asgT_len q]
end
/-! ### comprehensions -/
theorem wipe_rep {ρ : List Addr} {H : Hp} {mσ : MS'} {σ : L2.St} (hx : M.ex = none) (S : RepS X M ρ H mσ σ) : ∀ own : List Nat, RepS X M ρ H (wipeM mσ own) (wipe σ own)
  | [] => S
  | v :: vs => by
    have ih := wipe_rep hx S vs
    refine ⟨by simp [wipe, wipeM, ih.len], fun i m e => ?_, fun c fs k e => by rw [hx] at e; cases e⟩
    simp only [wipeM] at e
    simp only [wipe]
    by_cases h : i = v
    · subst h
      by_cases hl : i < (wipeM mσ vs).length
      · rw [List.getElem?_set_self hl] at e; cases e
      · rw [List.getElem?_eq_none (by simp; omega)] at e; cases e
    · rw [List.getElem?_set_ne (Ne.symm h)] at e ⊢
      exact ih.get i m e
theorem wipe_get {σ : L2.St} : ∀ (vs : List Nat) (i : Nat), (wipe σ vs)[i]? = if i ∈ vs ∧ i < σ.length then some none else σ[i]?
  | [], i => by simp [wipe]
  | v :: vs, i => by
    simp only [wipe]
    by_cases h : i = v
    · subst h
      by_cases hl : i < σ.length
      · rw [List.getElem?_set_self (by rw [wipe_length]; exact hl)]; simp [hl]
      · rw [List.getElem?_eq_none (by simp [wipe_length]; omega)]; simp [hl]
    · rw [List.getElem?_set_ne (Ne.symm h), wipe_get vs i]
      simp [h]
theorem wipe_eq {σ σ' : L2.St} {vs sl : List Nat} (hl : σ'.length = σ.length) (hs : ∀ i ∈ sl, i ∈ vs) (k : ∀ i, i ∉ sl → σ'[i]? = (wipe σ vs)[i]?) : wipe σ' vs = wipe σ vs := by
  apply List.ext_getElem?
  intro i
  rw [wipe_get, wipe_get]
  by_cases h : i ∈ vs
  · by_cases h2 : i < σ.length
    · simp [h, h2, hl]
    · simp only [h, h2, hl, and_false, if_false]
      rw [List.getElem?_eq_none (by omega), List.getElem?_eq_none (by omega)]
  · have h3 : i ∉ sl := fun z => h (hs i z)
    simp only [h, false_and, if_false]
    rw [k i h3, wipe_get]; simp [h]
def STs (X : Cx) (M : Cm) (ifs : List Expr) (mifs : List ME) : Prop := (ifs = [] ∧ mifs = []) ∨ ∃ c mc, ifs = [c] ∧ mifs = [mc] ∧ ST X M c mc
def tTs (X : Cx) (ifs : List Expr) : TT := fun σ H Q => ∃ t, PTs X ifs t ∧ t σ H Q
theorem pts_tTs {X : Cx} {ifs : List Expr} : PTs X ifs (tTs X ifs) := ⟨fun pins s σ H Q I ⟨_, h, q⟩ => h.run pins s σ H Q I q⟩
theorem sts_run {ifs : List Expr} {mifs : List ME} (h : STs X M ifs mifs) {σ : L2.St} {H : Hp} {mσ : MS'} {mh mh' : MH} {ρ : List Addr} (R : RepH X.K ρ mh H) (S : RepS X M ρ H mσ σ) {k : Bool} (e : evTs M mifs mσ mh = .ok k mh') {Q : Bool → Hp → Prop}
    (P : ∀ H' ρ', RepH X.K ρ' mh' H' → Stp ρ mh H ρ' mh' H' → Q k H') : tTs X ifs σ H Q := by
  rcases h with ⟨rfl, rfl⟩ | ⟨c, mc, rfl, rfl, h⟩
  · simp only [evTs] at e
    cases e
    exact ⟨_, pts_nil, P H ρ R .refl⟩
  · simp only [evTs] at e
    obtain ⟨x, h1, e1, e⟩ := bind_ok e
    split at e
    · cases e
      exact ⟨_, pts_one pt_tT, h σ H mσ mh ρ R S x _ e1 true (by assumption) _ P⟩
    · cases e
      exact ⟨_, pts_one pt_tT, h σ H mσ mh ρ R S x _ e1 false (by assumption) _ P⟩
    · cases e
def gLc (X : Cx) (scope : Scope) (tg : Expr) : TG := fun v σ H Q => ∀ (s : Shared) (Hh : Hp) (C : Addr) (cl : List (Str × Addr)) (fp : List Addr), tGt (X.blk s Hh scope (compEnvC scope cl C X.env) fp) tg v σ H Q
def ttLc (X : Cx) (scope : Scope) (ifs : List Expr) : TT := fun σ H Q => ∀ (s : Shared) (Hh : Hp) (C : Addr) (cl : List (Str × Addr)) (fp : List Addr), tTs (X.blk s Hh scope (compEnvC scope cl C X.env) fp) ifs σ H Q
def teLc (X : Cx) (scope : Scope) (elt : Expr) : TE := fun σ H Q => ∀ (s : Shared) (Hh : Hp) (C : Addr) (cl : List (Str × Addr)) (fp : List Addr), tS (X.blk s Hh scope (compEnvC scope cl C X.env) fp) elt σ H Q
theorem gLc_ok {scope : Scope} {tg : Expr} (s : Shared) (Hh : Hp) (C : Addr) (cl : List (Str × Addr)) (fp : List Addr) : PG (X.blk s Hh scope (compEnvC scope cl C X.env) fp) tg (gLc X scope tg) := ⟨fun pins s' σ H v u Q I r q => pg_tGt.run pins s' σ H v u Q I r (q s Hh C cl fp)⟩
theorem ttLc_ok {scope : Scope} {ifs : List Expr} (s : Shared) (Hh : Hp) (C : Addr) (cl : List (Str × Addr)) (fp : List Addr) : PTs (X.blk s Hh scope (compEnvC scope cl C X.env) fp) ifs (ttLc X scope ifs) := ⟨fun pins s' σ H Q I q => pts_tTs.run pins s' σ H Q I (q s Hh C cl fp)⟩
theorem teLc_ok {scope : Scope} {elt : Expr} (s : Shared) (Hh : Hp) (C : Addr) (cl : List (Str × Addr)) (fp : List Addr) : PE (X.blk s Hh scope (compEnvC scope cl C X.env) fp) elt (teLc X scope elt) := ⟨fun pins s' σ H Q I q => pe_tS.run pins s' σ H Q I (q s Hh C cl fp)⟩
theorem lc_rd (hx : M.ex = none) {elt tg iter : Expr} {ifs : List Expr} {scope : Scope} {own : List (Str × Nat)} {melt : ME} {mt : MT} {ik : IK} {mifs : List ME} (hi : SI X M tg iter ik ma mb) (hsl : ∀ i ∈ mt.slots, i ∈ own.map (·.2))
    (hg : ∀ (s : Shared) (H : Hp) (C : Addr) (cl : List (Str × Addr)) (fp : List Addr), SG (X.blk s H scope (compEnvC scope cl C X.env) fp) M tg mt)
    (ht : ∀ (s : Shared) (H : Hp) (C : Addr) (cl : List (Str × Addr)) (fp : List Addr), STs (X.blk s H scope (compEnvC scope cl C X.env) fp) M ifs mifs)
    (he : ∀ (s : Shared) (H : Hp) (C : Addr) (cl : List (Str × Addr)) (fp : List Addr), SE (X.blk s H scope (compEnvC scope cl C X.env) fp) M elt melt)
    {σ : L2.St} {H : Hp} {mσ : MS'} {mh mh' : MH} {ρ : List Addr} {mv : MV} {Q : VK} (R : RepH X.K ρ mh H) (S : RepS X M ρ H mσ σ) (e : evE M (.lc melt mt ik ma mb mifs (own.map (·.2))) mσ mh = .ok mv mh') (P : Post X.K ρ mh H mv mh' Q) :
    tLc (tIt X tg iter) (gLc X scope tg) (ttLc X scope ifs) (teLc X scope elt) (own.map (·.2)) σ H Q := by
  simp only [evE] at e
  obtain ⟨x, h1, e1, e⟩ := bind_ok e
  obtain ⟨y, h2, e2, e⟩ := bind_ok e
  split at e
  · rename_i it e3
    split at e
    · rename_i xs e4
      obtain ⟨ys, h3, e5, e⟩ := bind_ok e
      cases e
      have hlm := lineM_le
      refine hi σ H mσ mh ρ R S x h1 y h2 it e1 e2 e3 _ fun J H1 ρ1 R1 S1 ok1 D hD => ?_
      have RS1 := S.stp R S1
      generalize hst : (fun (v : MV) (h : MH) => lcStep (asgT mt v (wipeM mσ (own.map (·.2)))) (fun σ h => evTs M mifs σ h) (fun σ h => evE M melt σ h) h) = step at e5
      -- the loop's word
      refine ⟨fun i n Hc => ∃ acc' acc mc ρc, compGo it step n i acc' mc = .ok ys h3 ∧ RepH X.K ρc mc Hc ∧ Stp ρ1 h2 H1 ρc mc Hc ∧ Hc D = some (.lst acc) ∧ ¬ Mu ρc mc D ∧ Reps X.K ρc Hc acc' acc, ⟨xs.length, ?_⟩, ?_⟩
      · obtain ⟨f1, f2, _⟩ := R1.fresh (ho := .lst []) hD
        exact ⟨[], [], h2, ρ1, e5, f1, Stp.out .refl hD, upd_same, f2, .nil⟩
      · rintro i n Hc ⟨acc', acc, mc, ρc, ec, Rc, Sc, hDc, nmc, rc⟩
        cases n with
        | zero =>
          simp only [compGo] at ec
          split at ec
          · cases ec
            refine .inl ⟨(ok1 ρc _ Hc Rc Sc i).2 (by assumption), ?_⟩
            refine (P.after S1) _ _ _ (Rc.adopt hDc nmc rc) (.ref ?_) (Sc.adopt Rc.len hD)
            rw [← Rc.len]; simp
          · cases ec
        | succ n =>
          simp only [compGo] at ec
          split at ec
          · rename_i v ev
            obtain ⟨o, m4, e6, ec⟩ := bind_ok ec
            obtain ⟨go, yl⟩ := (ok1 ρc mc Hc Rc Sc i).1 _ _ ev
            refine .inr ⟨go, fun H' => ∃ acc' acc mc ρc, compGo it step n (i + 1) acc' mc = .ok ys h3 ∧ RepH X.K ρc mc H' ∧ Stp ρ1 h2 H1 ρc mc H' ∧ H' D = some (.lst acc) ∧ ¬ Mu ρc mc D ∧ Reps X.K ρc H' acc' acc, fun H' z => ⟨n, by omega, z⟩, fun xv H' hy => ?_⟩
            obtain ⟨ρy, Ry, Sy, ry⟩ := yl xv H' hy
            have keepD : ∀ {ρ2 m2 H2}, Stp ρc mc Hc ρ2 m2 H2 → H2 D = some (.lst acc) ∧ ¬ Mu ρ2 m2 D := fun {ρ2 m2 H2} S2 => ⟨S2.frm D _ nmc hDc, fun m => by
              rcases S2.new D m with z | z
              · exact nmc z
              · rw [hDc] at z; cases z⟩
            intro s Hh C cl fp
            rw [← hst] at e6
            simp only [lcStep] at e6
            split at e6
            · rename_i mσ2 e7
              refine hg s Hh C cl fp _ H' _ mσ2 mc ρy xv v Ry ((wipe_rep hx ((RS1.stp R1 Sc).stp Rc Sy) _).any rfl hx) ry e7 _ fun σ2 RS2 k2 => ?_
              refine ⟨wipe_eq (by rw [RS2.len]; have := (wipe_rep hx ((RS1.stp R1 Sc).stp Rc Sy) (own.map (·.2))).len; rw [wipe_length] at this; rw [this]; exact asgT_len e7) hsl k2, ?_⟩
              obtain ⟨b, m5, e8, e6⟩ := bind_ok e6
              intro s Hh C cl fp
              refine sts_run (ht s Hh C cl fp) Ry (RS2.any rfl hx) e8 fun H5 ρ5 R5 S5 => ?_
              have S5' := Sy.trans S5
              cases b with
              | true =>
                rw [if_pos rfl]
                obtain ⟨w, m6, e9, e6⟩ := bind_ok e6
                cases e6
                intro s Hh C cl fp
                refine he s Hh C cl fp σ2 H5 mσ2 m5 ρ5 R5 ((RS2.stp Ry S5).any rfl hx) w _ e9 _ fun vw H6 ρ6 R6 r6 S6 => ?_
                have S6' := S5'.trans S6
                obtain ⟨k1, k2⟩ := keepD S6'
                dsimp only at ec
                split at ec
                · rename_i hlt
                  refine ⟨acc, k1, by rw [← rc.length]; omega, acc' ++ [w], acc ++ [vw], m4, ρ6, ec, R6.out k1 trivial k2, (Sc.trans S6').out hD, upd_same, k2, ?_⟩
                  exact Reps.mono' (List.prefix_refl _) (fun q vs h => SqT.out k1 trivial h) _ _ ((rc.stp Rc S6').append (.one r6))
                · cases ec
              | false =>
                rw [if_neg Bool.false_ne_true]
                cases e6
                obtain ⟨k1, k2⟩ := keepD S5'
                exact ⟨acc', acc, m4, ρ5, ec, R5, Sc.trans S5', k1, k2, rc.stp Rc S5'⟩
            · cases e6
          · cases ec
    · cases e
  · cases e
theorem se_lc {elt tg iter : Expr} {ifs : List Expr} {scope : Scope} {own : List (Str × Nat)} {pos : Pos} {melt : ME} {mt : MT} {ik : IK} {mifs : List ME} (hc : X.calm = true) (hx : M.ex = none) (hN : X.N.Nodup) (ok : BlkOk X.N X.env.scope scope own)
    (hi : SI X M tg iter ik ma mb) (hsl : ∀ i ∈ mt.slots, i ∈ own.map (·.2))
    (hg : ∀ (s : Shared) (H : Hp) (C : Addr) (cl : List (Str × Addr)) (fp : List Addr), SG (X.blk s H scope (compEnvC scope cl C X.env) fp) M tg mt)
    (ht : ∀ (s : Shared) (H : Hp) (C : Addr) (cl : List (Str × Addr)) (fp : List Addr), STs (X.blk s H scope (compEnvC scope cl C X.env) fp) M ifs mifs)
    (he : ∀ (s : Shared) (H : Hp) (C : Addr) (cl : List (Str × Addr)) (fp : List Addr), SE (X.blk s H scope (compEnvC scope cl C X.env) fp) M elt melt)
    (hs : ∀ x, foldedSetIterable iter X.env x = pure x) : SE X M (.ListComp elt [⟨tg, iter, ifs, 0⟩] scope pos) (.lc melt mt ik ma mb mifs (own.map (·.2))) := by
  intro σ H mσ mh ρ R S mv mh' e Q P
  exact ⟨_, pe_lc hc hN pi_tIt ok (fun s H C cl fp => gLc_ok s H C cl fp) (fun s H C cl fp => ttLc_ok s H C cl fp) (fun s H C cl fp => teLc_ok s H C cl fp) hs, lc_rd hx hi hsl hg ht he R S e P⟩
/-! ### displays of dicts, ranges as lists and tuples -/
theorem KReps.put {ρ : List Addr} {H : Hp} {xs : List (Key × MV)} {vs : List (Key × V)} (h : KReps K ρ H xs vs) {ps : List (Key × MV)} {qs : List (Key × V)} (g : KReps K ρ H ps qs) :
    KReps K ρ H (ps.foldl (fun acc kv => Mn.putK kv.1 kv.2 acc) xs) (mergeK vs qs) := by
  induction g generalizing xs vs with
  | nil => exact h
  | cons a _ ih => exact ih (putK_rep a h)
def weave : List Expr → List Expr → List Expr
  | k :: ks, v :: vs => k :: v :: weave ks vs
  | _, _ => []
inductive SP2 (X : Cx) (M : Cm) : List Expr → List Expr → List ME → Prop
  | nil : SP2 X M [] [] []
  | cons {k v : Expr} {ks vs : List Expr} {mk mv : ME} {ms : List ME} : SE X M k mk → SE X M v mv → SP2 X M ks vs ms → SP2 X M (k :: ks) (v :: vs) (mk :: mv :: ms)
theorem sp2_run {ks vs : List Expr} {ms : List ME} (h : SP2 X M ks vs ms) : ∃ trs, PPs X pos (ks.map some) vs trs ∧
    ∀ σ H mσ mh ρ, RepH X.K ρ mh H → RepS X M ρ H mσ σ → ∀ xs mh', evEs M ms mσ mh = .ok xs mh' → ∀ ps, pairUp xs = some ps → ∀ Q : List (V × V) → Hp → Prop,
      (∀ (qs : List (Key × V)) H' ρ', RepH X.K ρ' mh' H' → KReps X.K ρ' H' ps qs → Stp ρ mh H ρ' mh' H' → Q (qs.map fun kv => (kV kv.1, kv.2)) H') → tPairs trs σ H Q := by
  induction h with
  | nil =>
    refine ⟨[], pps_nil, fun σ H mσ mh ρ R S xs mh' e ps e2 Q P => ?_⟩
    simp only [evEs] at e
    cases e
    simp only [pairUp] at e2
    cases e2
    exact P [] H ρ R .nil .refl
  | cons h1 h2 _ ih =>
    obtain ⟨trs, g1, g2⟩ := ih
    refine ⟨_, pps_cons pe_tS pe_tS g1, fun σ H mσ mh ρ R S xs mh' e ps e4 Q P => ?_⟩
    simp only [evEs] at e
    obtain ⟨x, m1, e1, e⟩ := bind_ok e
    obtain ⟨xs2, m3, e3, e⟩ := bind_ok e
    cases e
    obtain ⟨y, m2, e2, e3⟩ := bind_ok e3
    obtain ⟨zs, m4, e5, e3⟩ := bind_ok e3
    cases e3
    simp only [pairUp] at e4
    split at e4
    · rename_i k ps2 hk hp
      cases e4
      refine h1 σ H mσ mh ρ R S x m1 e1 _ fun v H1 ρ1 R1 r1 S1 => ?_
      refine h2 σ H1 mσ m1 ρ1 R1 (S.stp R S1) y m2 e2 _ fun w H2 ρ2 R2 r2 S2 => ?_
      refine g2 σ H2 mσ m2 ρ2 R2 ((S.stp R S1).stp R1 S2) zs _ e5 ps2 hp _ fun qs H3 ρ3 R3 r3 S3 => ?_
      have := keyOf_rep r1 hk
      subst this
      exact P ((k, w) :: qs) H3 ρ3 R3 (.cons (r2.stp R2 S3) r3) ((S1.trans S2).trans S3)
    · cases e4
theorem pairUp_len : ∀ {xs : List MV} {ps : List (Key × MV)}, pairUp xs = some ps → xs.length = 2 * ps.length
  | [], _, h => by simp only [pairUp] at h; cases h; rfl
  | [x], _, h => by simp [pairUp] at h
  | x :: y :: r, _, h => by
    simp only [pairUp] at h
    split at h
    · cases h
      have := pairUp_len (xs := r) (by assumption)
      simp; omega
    · cases h
theorem se_dsp {ks vs : List Expr} {ms : List ME} (h : SP2 X M ks vs ms) (h15 : ks.length ≤ 15) : SE X M (.Dict (ks.map some) vs pos) (.dsp ms) := by
  intro σ H mσ mh ρ R S mv mh' e Q P
  simp only [evE] at e
  obtain ⟨xs, m1, e1, e⟩ := bind_ok e
  split at e
  · rename_i ps hps
    cases e
    cases h with
    | nil =>
      simp only [evEs] at e1
      cases e1
      simp only [pairUp] at hps
      cases hps
      refine ⟨_, pe_dnewK, fun p hn => ?_⟩
      obtain ⟨a, b⟩ := R.push (o := .dct []) (ho := .dK []) hn rfl fun H' h1 h2 => ⟨[], h2, .nil⟩
      exact P _ _ _ a (.ref (by rw [← R.len]; simp)) b
    | @cons k v ks vs mk mv ms a b c =>
      have hh : SP2 X M (k :: ks) (v :: vs) (mk :: mv :: ms) := .cons a b c
      obtain ⟨trs, g1, g2⟩ := sp2_run (pos := pos) hh
      have l1 : ∀ {ks vs : List Expr} {ms : List ME}, SP2 X M ks vs ms → ks.length = vs.length ∧ ms.length = 2 * ks.length := fun h => by
        induction h with
        | nil => exact ⟨rfl, rfl⟩
        | cons _ _ _ ih => simp; omega
      have hl : ((k :: ks).map some).length = (v :: vs).length := by simp [(l1 c).1]
      refine ⟨_, pe_disp g1 (by simp) hl (by simp) (by simpa using h15), fun p hn => ?_⟩
      obtain ⟨f1, f2, f3⟩ := R.fresh (ho := .dK []) hn
      have S' : RepS X M ρ (upd H p (.dK [])) mσ σ := S.stp R (Stp.out .refl hn)
      refine g2 σ _ mσ mh ρ f1 S' xs _ e1 ps hps _ fun qs H2 ρ2 R2 r2 S2 => ?_
      have kD : H2 p = some (.dK []) := S2.frm p _ f2 upd_same
      have nm : ¬ Mu ρ2 m1 p := fun m => by
        rcases S2.new p m with z | z
        · exact f2 z
        · rw [upd_same] at z; cases z
      have hlen : qs.length ≤ 15 := by
        have h1 := evEs_len e1
        have h2 := pairUp_len hps
        have h3 := (l1 hh).2
        have h4 := r2.length
        omega
      refine ⟨kD, qs, rfl, hlen, ?_⟩
      have Ro := R2.out (ho := .dK (mergeK [] qs)) kD trivial nm
      have hz : ∀ q vs, SqT X.K H2 q vs → SqT X.K (upd H2 p (.dK (mergeK [] qs))) q vs := fun q vs h => SqT.out kD trivial h
      have Rq : KReps X.K (ρ2 ++ [p]) (upd H2 p (.dK (mergeK [] qs))) (ps.foldl (fun acc kv => Mn.putK kv.1 kv.2 acc) []) (mergeK [] qs) := KReps.mono' (List.prefix_append _ _) hz (KReps.put .nil r2)
      have St : Stp ρ mh H ρ2 m1 (upd H2 p (.dK (mergeK [] qs))) := ⟨S2.pre, fun q m => by
        rcases S2.new q m with z | z
        · exact .inl z
        · by_cases hq : q = p
          · subst hq; exact .inr hn
          · rw [upd_ne hq] at z; exact .inr z, fun q o n h => by
        have hq : q ≠ p := ne_of_none h hn
        rw [upd_ne hq]
        exact S2.frm q o n (by rw [upd_ne hq]; exact h)⟩
      exact P _ _ _ (Ro.adoptO nm ⟨_, upd_same, Rq⟩) (.ref (by rw [← R2.len]; simp)) (St.adopt R2.len hn)
  · cases e
theorem se_srtS {p p2 q : Pos} (hc : X.calm = true) (hg : Gl X "sorted") (hm : X.mg "sorted" = none) (hg2 : Gl X "set") (hm2 : X.mg "set" = none) (na : starEach [a] X.env = (false, eval a X.env) :: starEach [] X.env) (ha : SE X M a ma) :
    SE X M (.Call (.Name "sorted" p) [.Call (.Name "set" p2) [a] [] q] [] pos) (.srtS ma) := by
  intro σ H mσ mh ρ R S mv mh' e Q P
  simp only [evE] at e
  obtain ⟨x, h1, e1, e⟩ := bind_ok e
  unfold srtM at e
  split at e
  · rename_i xs
    split at e
    · rename_i ns hns
      split at e
      · rename_i hl
        cases e
        refine ⟨_, pe_callB (cr_sortedSet hc) hg hm PyProof.Rows.boot_sorted (pa_cons (pe_setT hc hg2 hm2 pe_tS na) pa_nil rfl) (by decide) (by decide) rfl rfl, ?_⟩
        refine ha σ H mσ mh ρ R S _ _ e1 _ fun v H1 ρ1 R1 r1 S1 => ?_
        cases r1 with
        | @tup _ p0 vs s r =>
          obtain rfl := r.ints hns
          refine ⟨p0, ns, rfl, s, hl.1, fun p hp => ?_⟩
          obtain ⟨f1, _, _⟩ := R1.fresh (ho := SetO X.w p (fun j => decide (j ∈ ns)) ns.eraseDups.length) hp
          refine ⟨p, _, _, rfl, upd_same, hl.2, fun ms p' h2 h3 _ hp' => ?_⟩
          have em : ms = srtI ns := pw_eq h2 (srtI_pw ns) fun k => by rw [h3 k, srtI_mem]; simp
          subst em
          exact ((P.after S1).after (Stp.out .refl hp)).newL f1 (.ofInts _) hp'
      · cases e
    · cases e
  · cases e
theorem se_lnS {p p2 q : Pos} (hc : X.calm = true) (hg : Gl X "len") (hm : X.mg "len" = none) (hg2 : Gl X "set") (hm2 : X.mg "set" = none) (na : starEach [a] X.env = (false, eval a X.env) :: starEach [] X.env) (ha : SE X M a ma) :
    SE X M (.Call (.Name "len" p) [.Call (.Name "set" p2) [a] [] q] [] pos) (.lenS ma) := by
  intro σ H mσ mh ρ R S mv mh' e Q P
  simp only [evE] at e
  obtain ⟨x, h1, e1, e⟩ := bind_ok e
  unfold lenM at e
  split at e
  · rename_i ns hns
    split at e
    · rename_i hl
      cases e
      refine ⟨_, pe_lnS hc hg hm hg2 hm2 pe_tS na, ?_⟩
      refine ha σ H mσ mh ρ R S _ _ e1 _ fun v H1 ρ1 R1 r1 S1 => ?_
      obtain ⟨xs, hxs, hns2⟩ := Option.bind_eq_some_iff.mp hns
      cases r1 with
      | @tup _ p0 vs s r =>
        cases hxs
        obtain rfl := r.ints hns2
        exact ⟨p0, ns, rfl, .inr s, hl, P _ _ _ R1 (.int _) S1⟩
      | @ref l p0 hp =>
        obtain ⟨us, s, r⟩ := R1.lsts hp hxs
        obtain rfl := r.ints hns2
        exact ⟨p0, ns, rfl, .inl s, hl, P _ _ _ R1 (.int _) S1⟩
      | _ => cases hxs
    · cases e
  · cases e
theorem rngM_ok {x y : MV} {xs : List MV} (e : rngM x y = some xs) : ∃ i j, x = .int i ∧ y = .int j ∧ RgOk i j ∧ xs = rngI i (j - i).toNat := by
  unfold rngM at e
  split at e
  · split at e
    · cases e
      rename_i h
      exact ⟨_, _, rfl, rfl, ⟨h.1, h.2.1, h.2.2.1, h.2.2.2.1, Nat.le_trans h.2.2.2.2 (by decide)⟩, rfl⟩
    · cases e
  · cases e
theorem rng_reps {ρ : List Addr} {H : Hp} {i j : Int} : Reps K ρ H (rngI i (j - i).toNat) (rgV i j) := by
  unfold rngI rgV
  generalize List.range (j - i).toNat = l
  induction l with
  | nil => exact .nil
  | cons a l ih => exact .cons (.int _) ih
/-- list(range(..)), tuple(range(..)): r tells how the range is written -/
theorem se_rngL {p : Pos} {e : Expr} {te : L2.St → Hp → (Int → Int → Hp → Prop) → Prop} (hc : X.calm = true) (hg : Gl X "list") (hm : X.mg "list" = none) (he : PRg X e te) (na : starEach [e] X.env = (false, eval e X.env) :: starEach [] X.env)
    (h : ∀ σ H mσ mh ρ, RepH X.K ρ mh H → RepS X M ρ H mσ σ → ∀ x h1 y h2, evE M ma mσ mh = .ok x h1 → evE M mb mσ h1 = .ok y h2 → ∀ i j, x = .int i → y = .int j → ∀ Q : Int → Int → Hp → Prop, (∀ H' ρ', RepH X.K ρ' h2 H' → Stp ρ mh H ρ' h2 H' → Q i j H') → te σ H Q) :
    SE X M (.Call (.Name "list" p) [e] [] pos) (.rngL ma mb) := by
  intro σ H mσ mh ρ R S mv mh' e Q P
  simp only [evE] at e
  obtain ⟨x, h1, e1, e⟩ := bind_ok e
  obtain ⟨y, h2, e2, e⟩ := bind_ok e
  split at e
  · rename_i xs hx
    obtain ⟨i, j, rfl, rfl, ok, rfl⟩ := rngM_ok hx
    cases e
    refine ⟨_, pe_listRg hc hg hm he na, h σ H mσ mh ρ R S _ h1 _ h2 e1 e2 i j rfl rfl _ fun H' ρ' R' S' => ⟨ok, fun q hn => (P.after S').newL R' rng_reps hn⟩⟩
  · cases e
theorem se_rngT {p : Pos} {e : Expr} {te : L2.St → Hp → (Int → Int → Hp → Prop) → Prop} (hc : X.calm = true) (hg : Gl X "tuple") (hm : X.mg "tuple" = none) (he : PRg X e te) (na : starEach [e] X.env = (false, eval e X.env) :: starEach [] X.env)
    (h : ∀ σ H mσ mh ρ, RepH X.K ρ mh H → RepS X M ρ H mσ σ → ∀ x h1 y h2, evE M ma mσ mh = .ok x h1 → evE M mb mσ h1 = .ok y h2 → ∀ i j, x = .int i → y = .int j → ∀ Q : Int → Int → Hp → Prop, (∀ H' ρ', RepH X.K ρ' h2 H' → Stp ρ mh H ρ' h2 H' → Q i j H') → te σ H Q) :
    SE X M (.Call (.Name "tuple" p) [e] [] pos) (.rngT ma mb) := by
  intro σ H mσ mh ρ R S mv mh' e Q P
  simp only [evE] at e
  obtain ⟨x, h1, e1, e⟩ := bind_ok e
  obtain ⟨y, h2, e2, e⟩ := bind_ok e
  split at e
  · rename_i xs hx
    obtain ⟨i, j, rfl, rfl, ok, rfl⟩ := rngM_ok hx
    cases e
    refine ⟨_, pe_tupRg hc hg hm he na, h σ H mσ mh ρ R S _ h1 _ _ e1 e2 i j rfl rfl _ fun H' ρ' R' S' => ⟨ok, fun q hn => (P.after S').newT R' rng_reps hn⟩⟩
  · cases e
theorem rg1_ok {p2 p : Pos} (ha : SE X M a ma) (hg : Gl X "range") (hm : X.mg "range" = none) (hs : starEach [a] X.env = (false, eval a X.env) :: starEach [] X.env) : ∃ te, PRg X (.Call (.Name "range" p) [a] [] p2) te ∧
    ∀ σ H mσ mh ρ, RepH X.K ρ mh H → RepS X M ρ H mσ σ → ∀ x h1 y h2, evE M (.c (.int 0)) mσ mh = .ok x h1 → evE M ma mσ h1 = .ok y h2 → ∀ i j, x = .int i → y = .int j → ∀ Q : Int → Int → Hp → Prop, (∀ H' ρ', RepH X.K ρ' h2 H' → Stp ρ mh H ρ' h2 H' → Q i j H') → te σ H Q := by
  refine ⟨_, prg_1 hg hm pe_tS hs, fun σ H mσ mh ρ R S x h1 y h2 e1 e2 i j hi hj Q P => ?_⟩
  subst hi hj
  simp only [evE] at e1
  cases e1
  refine ha σ H mσ mh ρ R S _ _ e2 _ fun v H1 ρ1 R1 r1 S1 => ?_
  cases r1
  exact ⟨j, rfl, P H1 ρ1 R1 S1⟩
theorem rg2_ok {p2 p : Pos} (ha : SE X M a ma) (hb : SE X M b mb) (hg : Gl X "range") (hm : X.mg "range" = none) (hs : starEach [a, b] X.env = (false, eval a X.env) :: starEach [b] X.env) (hs2 : starEach [b] X.env = (false, eval b X.env) :: starEach [] X.env) :
    ∃ te, PRg X (.Call (.Name "range" p) [a, b] [] p2) te ∧
    ∀ σ H mσ mh ρ, RepH X.K ρ mh H → RepS X M ρ H mσ σ → ∀ x h1 y h2, evE M ma mσ mh = .ok x h1 → evE M mb mσ h1 = .ok y h2 → ∀ i j, x = .int i → y = .int j → ∀ Q : Int → Int → Hp → Prop, (∀ H' ρ', RepH X.K ρ' h2 H' → Stp ρ mh H ρ' h2 H' → Q i j H') → te σ H Q := by
  refine ⟨_, prg_2 hg hm pe_tS pe_tS hs hs2 (by rw [hs2]; rfl), fun σ H mσ mh ρ R S x h1 y h2 e1 e2 i j hi hj Q P => ?_⟩
  subst hi hj
  refine ha σ H mσ mh ρ R S _ _ e1 _ fun v H1 ρ1 R1 r1 S1 => ?_
  refine hb σ H1 mσ h1 ρ1 R1 (S.stp R S1) _ _ e2 _ fun w H2 ρ2 R2 r2 S2 => ?_
  cases r1; cases r2
  exact ⟨i, j, rfl, rfl, P H2 ρ2 R2 (S1.trans S2)⟩
end
end Mn

set_option maxHeartbeats 4000000
/-! Snd3: calls, methods, statements, functions. -/
namespace Mn
open PySem PySem.Spec PyProof.Rows L2

/-- what is written of a text's names: a def's names by slot; its defs, built-ins, constants; the defs that may raise, the refusals, the defs whose one parameter is one; whether this def may raise; whether loops and calls may stand here -/
structure CP where
  N : List Str
  F : List Str
  B : List Str
  G : List Str
  RX : List Str := []
  CL : List Str := []
  EF : List Str := []
  rx : Bool := false
  cm : Bool := true
  ek : Option Nat := none
/-- nothing is raised -/
def NoX : CXT := fun _ _ _ _ _ _ => False
/-- a def keeps its promise where no guarded code runs -/
structure FnG (P : Program) (w : World) (K : PySem.W.Frag) (mg : Str → Option Value) (base : Heap) (k : Nat) (f : Addr) (fd : FuncData) (ps : List Str) (sp : Sp) : Prop where
  len : ∀ vs H Q E, sp vs H Q E → vs.length = ps.length
  run : ∀ (A : Around) (outer : List Env) (s : Shared) (H : Hp) (args : Args) (us : List Value) (vs : List V) (Q : VK) (E : XK), A.guards = some [] → Room k A → Env0 P w K mg base A outer s H →
    BindsTo s fd args (ps.zip us) → Vals vs us → sp vs H Q E → codeAny (model P w) A (.call (.ref f) args) (CR NoX outer P w H s Q E) s
theorem FnG.mono {P : Program} {w : World} {K : PySem.W.Frag} {mg : Str → Option Value} {base : Heap} {j k : Nat} {f : Addr} {fd : FuncData} {ps : List Str} {sp : Sp} (F : FnG P w K mg base j f fd ps sp) (h : j ≤ k) : FnG P w K mg base k f fd ps sp :=
  ⟨F.len, fun A outer s H args us vs Q E hg hr => F.run A outer s H args us vs Q E hg (hr.mono h)⟩
/-- the small run of f as a promise -/
def spM (K : PySem.W.Frag) (call : Str → List MV → MH → R MV) (f : Str) (n : Nat) : Sp := fun ws H Q _ =>
  ∃ ρ mh vs mv mh', RepH K ρ mh H ∧ Reps K ρ H vs ws ∧ vs.length = n ∧ call f vs mh = .ok mv mh' ∧ Post K ρ mh H mv mh' Q
/-- what leaves a def that raises: the refusal's own dict, its class -/
def PostX (mg : Str → Option Value) (K : PySem.W.Frag) (ρ : List Addr) (mh : MH) (H : Hp) (c : Str) (fs : List MV) (mh' : MH) (E : XK) : Prop :=
  ∀ H' ρ' dd l C, RepH K ρ' mh' H' → Stp ρ mh H ρ' mh' H' → H' dd = some (.xd l) → FldM c fs l → mg c = some (.ref C) → E (.ref C) (some dd) H'
theorem PostX.after {mg : Str → Option Value} {K : PySem.W.Frag} {ρ ρ1 : List Addr} {mh m1 mh' : MH} {H H1 : Hp} {c : Str} {fs : List MV} {E : XK} (P : PostX mg K ρ mh H c fs mh' E) (S : Stp ρ mh H ρ1 m1 H1) : PostX mg K ρ1 m1 H1 c fs mh' E :=
  fun H' ρ' dd l C a b => P H' ρ' dd l C a (S.trans b)
/-- the small run of a def that may raise, as a promise -/
def spX (mg : Str → Option Value) (K : PySem.W.Frag) (call : Str → List MV → MH → R MV) (f : Str) (n : Nat) : Sp := fun ws H Q E =>
  ∃ ρ mh vs mv mh', RepH K ρ mh H ∧ Reps K ρ H vs ws ∧ vs.length = n ∧ call f vs mh = .ok mv mh' ∧ (decX mv = none → Post K ρ mh H mv mh' Q) ∧ (∀ c fs, decX mv = some (c, fs) → PostX mg K ρ mh H c fs mh' E)
/-- a def that may raise keeps its promise -/
structure FnX (P : Program) (w : World) (K : PySem.W.Frag) (mg : Str → Option Value) (base : Heap) (k : Nat) (f : Addr) (fd : FuncData) (ps : List Str) (sp : Sp) : Prop where
  len : ∀ vs H Q E, sp vs H Q E → vs.length = ps.length
  run : ∀ (A : Around) (outer : List Env) (s : Shared) (H : Hp) (args : Args) (us : List Value) (vs : List V) (Q : VK) (E : XK), A.guards = some [] → Room k A → Env0 P w K mg base A outer s H →
    BindsTo s fd args (ps.zip us) → Vals vs us → sp vs H Q E → codeAny (model P w) A (.call (.ref f) args) (CR (L2.CX P w) outer P w H s Q E) s
/-- a refusal held in an except suite, handed to a def -/
structure Held (K : PySem.W.Frag) (mg : Str → Option Value) (H : Hp) (s : Shared) (A : Around) (outer : List Env) (c : Str) (fs : List MV) (a : Addr) : Prop where
  ex : ∃ (oe : Obj) (dd : Addr) (l : List (Str × V)) (C : Addr), L2H.PinOk outer H s (a, oe) ∧ oe.cls = .ref C ∧ oe.dict = some dd ∧ (∃ vs, oe.data = .fields vs) ∧ H dd = some (.xd l) ∧ mg c = some (.ref C) ∧ FldM c fs l
structure FnE (P : Program) (w : World) (K : PySem.W.Frag) (mg : Str → Option Value) (base : Heap) (f : Addr) (fd : FuncData) (ps : List Str) (call : Str → List MV → MH → R MV) : Prop where
  run : ∀ (A : Around) (outer : List Env) (s : Shared) (H : Hp) (args : Args) (a : Addr) (c : Str) (fs : List MV) (Q : VK) (E : XK) ρ mh mv mh', A.guards = some [] → L2H.RoomH 1 A → Env0 P w K mg base A outer s H → Held K mg H s A outer c fs a →
    BindsTo s fd args (ps.zip [.ref a]) → RepH K ρ mh H → call c fs mh = .ok mv mh' → Post K ρ mh H mv mh' Q → codeAny (model P w) A (.call (.ref f) args) (CR NoX outer P w H s Q E) s
/-- a class by its name -/
def clv (mg : Str → Option Value) (c : Str) : Option (Value × V) := match mg c with
  | some (.ref C) => some (.ref C, .ref C)
  | none => if c = "ValueError" then some (.type "ValueError", .ty "ValueError") else none
  | _ => none
/-- what is known of a refusal's class -/
structure ClsOk (P : Program) (w : World) (K : PySem.W.Frag) (mg : Str → Option Value) (base : Heap) (CL : List Str) (c : Str) (C : Addr) (flds anc : List Str) : Prop where
  g : mg c = some (.ref C)
  T : OexC K C
  x : XfC K C
  e : ExcC K C
  nof : ∀ f ∈ flds, PySem.W.findIn K (.ref C) f = some none
  init : flds ≠ [] → ∃ (fI : Addr) (fd : FuncData) (ps : List Str), PySem.W.findIn K (.ref C) "__init__" = some (some (.ref fI)) ∧ PySem.W.typeIn K (.ref fI) = some (.type "function") ∧ Binds K fd ps [] ∧ FnOk P w K mg base (L2.CX P w) 1 fI fd ps (spIni C flds)
  kit : ∀ c' ∈ CL, ∃ u v, clv mg c' = some (u, v) ∧ PySem.W.kitOne K (.ref C) u = some (anc.contains c') ∧ PySem.W.exmOne K (.ref C) u = some (anc.contains c')
/-- what a body may lean on -/
structure EC (X : Cx) (M : Cm) (p : CP) (k : Nat) : Prop where
  calm : p.cm = true → X.calm = true
  nox : p.cm = true → M.ex = none
  ek : ∀ c fs k, M.ex = some (c, fs, k) → p.ek = some k
  nd : X.N.Nodup
  gd : X.A.guards = some []
  room : p.cm = true → Room k X.A
  roomh : L2H.RoomH k X.A
  k1 : ∀ f ∈ p.EF, 1 ≤ k
  call : ∀ f ∈ p.F, ∃ (fa : Addr) (fd : FuncData) (ps : List Str), X.mg f = some (.ref fa) ∧ PySem.W.keepIn X.K (.ref fa) = true ∧ Binds X.K fd ps [] ∧ FnG X.prog X.w X.K X.mg X.base k fa fd ps (spM X.K M.call f ps.length) ∧
    ∀ vs mh mv mh', M.call f vs mh = .ok mv mh' → vs.length = ps.length
  callX : ∀ f ∈ p.RX, ∃ (fa : Addr) (fd : FuncData) (ps : List Str), X.mg f = some (.ref fa) ∧ PySem.W.keepIn X.K (.ref fa) = true ∧ Binds X.K fd ps [] ∧ FnX X.prog X.w X.K X.mg X.base k fa fd ps (spX X.mg X.K M.call f ps.length) ∧
    ∀ vs mh mv mh', M.call f vs mh = .ok mv mh' → vs.length = ps.length
  callE : ∀ f ∈ p.EF, ∃ (fa : Addr) (fd : FuncData) (x : Str), X.mg f = some (.ref fa) ∧ PySem.W.keepIn X.K (.ref fa) = true ∧ Binds X.K fd [x] [] ∧ FnE X.prog X.w X.K X.mg X.base fa fd [x] (M.callE f)
  cls : ∀ c ∈ p.CL, ∀ flds anc, clsTab c = some (flds, anc) → ∃ C, ClsOk X.prog X.w X.K X.mg X.base p.CL c C flds anc
  cur : ∀ c fs k t, M.ex = some (c, fs, k) → clsTab c = some t → c ∈ p.CL
  clsv : ∀ x ∈ p.CL, ∃ u v, clv X.mg x = some (u, v)
  clsa : ∀ c t C, clsTab c = some t → X.mg c = some (.ref C) → c ∈ p.CL
  blt : ∀ x ∈ p.B, X.mg x = none
  gl : ∀ x v, M.gl x = some v → ∃ u w, X.mg x = some u ∧ RelV w u ∧ ∀ ρ H, Rep X.K ρ H v w
theorem EC.blk {X : Cx} {M : Cm} {p : CP} {k : Nat} (c : EC X M p k) (s : Shared) (H : Hp) (scope : Scope) (cenv : Env) (fp : List Addr) : EC (X.blk s H scope cenv fp) M p k := ⟨c.calm, c.nox, c.ek, c.nd, c.gd, c.room, c.roomh, c.k1, c.call, c.callX, c.callE, c.cls, c.cur, c.clsv, c.clsa, c.blt, c.gl⟩
theorem EC.un {X : Cx} {M : Cm} {p : CP} {k : Nat} (c : EC X M p k) : X.A.units + 100 < cLine := by have := c.roomh.un; omega
section
variable {X : Cx} {M : Cm} {pr : CP} {k : Nat} {a : Expr} {es : List Expr} {ma : ME} {mes : List ME} {pos p : Pos}
/-- a call of one of the program's defs -/
theorem se_call (c : EC X M pr k) (hcm : pr.cm = true) {f : Str} (hf : f ∈ pr.F) (hg : Gl X f) (hdb : (f == ("__debug__" : Str)) = false) (he : starEach (a :: es) X.env = (false, eval a X.env) :: starEach es X.env)
    (hpl : (backTo pos (starEach es X.env)).any (·.1) = false) (h : SA X M (a :: es) mes) : SE X M (.Call (.Name f p) (a :: es) [] pos) (.call f mes) := by
  intro σ H mσ mh ρ R S mv mh' e Q P
  simp only [evE] at e
  obtain ⟨xs, h1, e1, e⟩ := bind_ok e
  obtain ⟨fa, fd, ps, hm, hk, hb, FF, hlen⟩ := c.call f hf
  refine ⟨fun σ H Q => tA X (a :: es) σ H fun ws H1 => spM X.K M.call f ps.length ws H1 Q fun _ _ _ => False, ⟨fun pins s σ H Q I hq => ?_⟩, ?_⟩
  · refine wpAny_Call_Name_kw (ld_glob I hg hm ?_ hdb)
    refine PySem.W.callWith_K (h₀ := X.base) I.ok.mod.kin hk (thn (pa_tA.run pos pins s σ H _ I hq) fun us s1 ⟨vs, H1, I1, r, q⟩ => ⟨I1.kIn, ?_⟩) he hpl
    have hl : vs.length = ps.length := FF.len vs H1 Q _ q
    have hl2 : (us ++ []).length = ps.length := by rw [List.append_nil, ← r.length]; exact hl
    have hb' := hb s1 us I1.kIn hl2
    rw [List.append_nil] at hb'
    refine wpAny_call (codeAny_mono (FF.run X.A X.stack s1 H1 ⟨us, []⟩ us vs Q _ c.gd (c.room hcm) I1.env0 hb' r q) fun r s' hq => ?_)
    cases r with
    | error e => exact (show False from hq).elim
    | ok fl =>
      cases fl with
      | ret u => exact I1.after hq
      | _ => exact False.elim hq
  · refine h σ H mσ mh ρ R S xs h1 e1 _ fun ws H1 ρ1 R1 r1 S1 => ?_
    exact ⟨ρ1, h1, xs, mv, mh', R1, r1, hlen _ _ _ _ e, e, P.after S1⟩
theorem se_call0 (c : EC X M pr k) (hcm : pr.cm = true) {f : Str} (hf : f ∈ pr.F) (hg : Gl X f) (hdb : (f == ("__debug__" : Str)) = false) : SE X M (.Call (.Name f p) [] [] pos) (.call f []) := by
  intro σ H mσ mh ρ R S mv mh' e Q P
  simp only [evE, evEs, Mn.R.bind] at e
  obtain ⟨fa, fd, ps, hm, hk, hb, FF, hlen⟩ := c.call f hf
  refine ⟨fun σ H Q => spM X.K M.call f ps.length [] H Q fun _ _ _ => False, ⟨fun pins s σ H Q I q => ?_⟩, ⟨ρ, mh, [], mv, mh', R, .nil, hlen _ _ _ _ e, e, P⟩⟩
  refine wpAny_Call_Name_kw (ld_glob I hg hm ?_ hdb)
  have hl : ([] : List V).length = ps.length := FF.len [] H Q _ q
  have hb' := hb s [] I.kIn hl
  refine PySem.W.callWith_K0 I.kIn hk (wpAny_call (codeAny_mono (FF.run X.A X.stack s H ⟨[], []⟩ [] [] Q _ c.gd (c.room hcm) I.env0 hb' .nil q) fun r s' hq => ?_))
  cases r with
  | error e => exact (show False from hq).elim
  | ok fl =>
    cases fl with
    | ret u => exact I.after hq
    | _ => exact False.elim hq
/-! ### methods -/
theorem kd_list {mh : MH} {x : MV} (e : kdM mh x = some .list) : ∃ l, x = .ref l ∧ ∃ xs, lsts mh l = some xs := by
  cases x <;> simp only [kdM] at e <;> try cases e
  rename_i l
  refine ⟨l, rfl, ?_⟩
  split at e <;> first | (cases e; done) | (rename_i h; exact ⟨_, by unfold lsts; rw [h]⟩)
theorem kd_dict {mh : MH} {x : MV} (e : kdM mh x = some .dict) : ∃ l, x = .ref l ∧ ∃ xs, mh[l]? = some (.dct xs) := by
  cases x <;> simp only [kdM] at e <;> try cases e
  rename_i l
  refine ⟨l, rfl, ?_⟩
  split at e <;> first | (cases e; done) | (rename_i h; exact ⟨_, h⟩)
structure MethSide (X : Cx) (o : Expr) (m : Str) (apos : Pos) (es : List Expr) (cpos : Pos) : Prop where
  base : attributeBase o m X.env (eval o X.env) = eval o X.env
  few : ((backTo cpos (starEach es X.env)).all (fun x => !x.1) && (backToKw cpos (keywordEach [] X.env)).all (fun x => x.1.isSome)
    && decide (es.length + ([] : List Keyword).length + (if ([] : List Keyword).isEmpty then 0 else 1) < 30)) = true
  line : (apos.endLine == cpos.line) = true
/-- o.m(e, ..), o a list, or d.get(k), d.get(k, x) -/
theorem se_meth (c : EC X M pr k) {m : Me} {o : Expr} {mo : ME} {apos : Pos} (hm : MethSide X o m.nm apos (a :: es) pos) (ho : SE X M o mo) (he : starEach (a :: es) X.env = (false, eval a X.env) :: starEach es X.env) (hpl : (backTo pos (starEach es X.env)).any (·.1) = false)
    (h : SA X M (a :: es) mes) (hget : m = .get → (∃ ma, mes = [ma] ∧ es = [] ∧ SE X M a ma ∧ backTo pos (starEach [a] X.env) = [(false, eval a X.env)]) ∨ ∃ b ma mb, mes = [ma, mb] ∧ es = [b] ∧ SE X M a ma ∧ SE X M b mb ∧ backTo pos (starEach [a, b] X.env) = [(false, eval a X.env), (false, eval b X.env)]) :
    SE X M (.Call (.Attribute o m.nm apos) (a :: es) [] pos) (.meth m mo mes) := by
  intro σ H mσ mh ρ R S mv mh' e Q P
  simp only [evE] at e
  obtain ⟨x, h1, e1, e⟩ := bind_ok e
  have hu1 : X.A.units + 1 < cLine := by have := c.un; omega
  cases hk : kdM h1 x with
  | none => rw [hk] at e; cases e
  | some kd =>
    rw [hk] at e
    obtain ⟨vs, h2, e2, e⟩ := bind_ok e
    cases kd with
    | list =>
      obtain ⟨l, rfl, ys, hl⟩ := kd_list hk
      obtain ⟨id, r, sl, ty, hr, hq⟩ := lmS (X := X) e
      refine ⟨_, pe_bm PySem.F.plainAttrs_list sl ty hr pe_tS pa_tA hm.base hm.few hm.line he hpl, ?_⟩
      refine ho σ H mσ mh ρ R S _ h1 e1 _ fun v H1 ρ1 R1 r1 S1 => ?_
      cases r1 with
      | @ref _ p hp =>
        obtain ⟨us, s, _⟩ := R1.lsts hp hl
        refine ⟨.inl ⟨rfl, us, s⟩, ?_⟩
        refine h σ H1 mσ h1 ρ1 R1 (S.stp R S1) vs h2 e2 _ fun ws H2 ρ2 R2 r2 S2 => ?_
        exact hq ρ2 H2 p ws R2 (prefix_get S2.pre hp) r2 Q (P.after (S1.trans S2))
    | dict =>
      obtain ⟨l, rfl, kvs, hd⟩ := kd_dict hk
      have nd : ∀ {n}, m ≠ .get → methM m .dict (.ref l) vs h2 ≠ .ok mv n := fun {n} hn z => by
        simp only [methM] at z
        split at z
        · rename_i q; cases q
        · cases m <;> simp_all
        · cases z
      by_cases hg : m = .get
      · subst hg
        rcases hget rfl with ⟨ma, rfl, rfl, ha, htr⟩ | ⟨b, ma, mb, rfl, rfl, ha, hb, htr⟩
        · refine ⟨_, pe_dget1 hu1 pe_tS pe_tS ⟨hm.base, hm.few, hm.line, htr⟩, ?_⟩
          refine ho σ H mσ mh ρ R S _ h1 e1 _ fun v H1 ρ1 R1 r1 S1 => ?_
          simp only [evEs] at e2
          obtain ⟨y, h3, e3, e2⟩ := bind_ok e2
          simp only [Mn.R.bind] at e2
          cases e2
          cases r1 with
          | @ref _ p hp =>
            obtain ⟨us, s, _⟩ := R1.dct hp hd
            refine ⟨p, rfl, .inl ⟨us, .of s⟩, ?_⟩
            refine ha σ H1 mσ h1 ρ1 R1 (S.stp R S1) y _ e3 _ fun w H2 ρ2 R2 r2 S2 => ?_
            simp only [methM] at e
            split at e
            · rename_i q; cases q
            · rename_i kvs2 hd2 _
              split at e
              · rename_i kk hkk
                cases e
                obtain ⟨us2, s2, rk⟩ := R2.dct (prefix_get S2.pre hp) hd2
                have := keyOf_rep r2 hkk
                subst this
                obtain ⟨g1, g2⟩ := getK_rep (k := kk) rk
                refine ⟨valV us2 kk, .k s2, ?_⟩
                cases z : getK kk kvs2 with
                | none => rw [g2 z]; rw [z] at P; exact P _ _ _ R2 .non (S1.trans S2)
                | some m => obtain ⟨v, g, rv⟩ := g1 m z; rw [g]; rw [z] at P; exact P _ _ _ R2 rv (S1.trans S2)
              · cases e
            · cases e
        · refine ⟨_, pe_dget2 hu1 pe_tS pe_tS pe_tS ⟨hm.base, hm.few, hm.line, htr⟩, ?_⟩
          refine ho σ H mσ mh ρ R S _ h1 e1 _ fun v H1 ρ1 R1 r1 S1 => ?_
          simp only [evEs] at e2
          obtain ⟨y, h3, e3, e2⟩ := bind_ok e2
          obtain ⟨zs, h4, e4, e2⟩ := bind_ok e2
          cases e2
          obtain ⟨z, h5, e5, e4⟩ := bind_ok e4
          simp only [Mn.R.bind] at e4
          cases e4
          cases r1 with
          | @ref _ p hp =>
            obtain ⟨us, s, _⟩ := R1.dct hp hd
            refine ⟨p, rfl, .inl ⟨us, .of s⟩, ?_⟩
            refine ha σ H1 mσ h1 ρ1 R1 (S.stp R S1) y _ e3 _ fun w H2 ρ2 R2 r2 S2 => ?_
            refine hb σ H2 mσ h3 ρ2 R2 ((S.stp R S1).stp R1 S2) z _ e5 _ fun w3 H3 ρ3 R3 r3 S3 => ?_
            simp only [methM] at e
            split at e
            · rename_i q; cases q
            · rename_i kvs2 hd2 _
              split at e
              · rename_i kk hkk
                cases e
                obtain ⟨us2, s2, rk⟩ := R3.dct (prefix_get S3.pre (prefix_get S2.pre hp)) hd2
                have := keyOf_rep (r2.stp R2 S3) hkk
                subst this
                obtain ⟨g1, g2⟩ := getK_rep (k := kk) rk
                refine ⟨valV us2 kk, .k s2, ?_⟩
                cases z : getK kk kvs2 with
                | none => rw [g2 z]; rw [z] at P; exact P _ _ _ R3 r3 ((S1.trans S2).trans S3)
                | some m => obtain ⟨v, g, rv⟩ := g1 m z; rw [g]; rw [z] at P; exact P _ _ _ R3 rv ((S1.trans S2).trans S3)
              · cases e
            · cases e
      · exact absurd e (nd hg)
    | str =>
      exfalso
      cases x <;> simp only [kdM] at hk <;> try cases hk
      · simp [methM] at e
      · split at hk <;> cases hk
    | tuple =>
      exfalso
      cases x <;> simp only [kdM] at hk <;> try cases hk
      · simp [methM] at e
      · split at hk <;> cases hk
/-- o.m(), o a list -/
theorem se_meth0 (c : EC X M pr k) {m : Me} {o : Expr} {mo : ME} {apos : Pos} (hbase : attributeBase o m.nm X.env (eval o X.env) = eval o X.env) (hline : (apos.endLine == pos.line) = true) (ho : SE X M o mo) :
    SE X M (.Call (.Attribute o m.nm apos) [] [] pos) (.meth m mo []) := by
  intro σ H mσ mh ρ R S mv mh' e Q P
  simp only [evE] at e
  obtain ⟨x, h1, e1, e⟩ := bind_ok e
  cases hk : kdM h1 x with
  | none => rw [hk] at e; cases e
  | some kd =>
    rw [hk] at e
    simp only [evEs, Mn.R.bind] at e
    cases kd with
    | list =>
      obtain ⟨l, rfl, ys, hl⟩ := kd_list hk
      obtain ⟨id, r, sl, ty, hr, hq⟩ := lmS (X := X) e
      refine ⟨_, pe_bm0 PySem.F.plainAttrs_list sl ty hr pe_tS hbase hline, ?_⟩
      refine ho σ H mσ mh ρ R S _ h1 e1 _ fun v H1 ρ1 R1 r1 S1 => ?_
      cases r1 with
      | @ref _ p hp =>
        obtain ⟨us, s, _⟩ := R1.lsts hp hl
        exact ⟨.inl ⟨rfl, us, s⟩, hq ρ1 H1 p [] R1 hp .nil Q (P.after S1)⟩
    | dict =>
      obtain ⟨l, rfl, kvs, hd⟩ := kd_dict hk
      simp only [methM] at e
      split at e
      · rename_i q; cases q
      · cases m <;> simp_all
      · cases e
    | str =>
      exfalso
      cases x <;> simp only [kdM] at hk <;> try cases hk
      · simp [methM] at e
      · split at hk <;> cases hk
    | tuple =>
      exfalso
      cases x <;> simp only [kdM] at hk <;> try cases hk
      · simp [methM] at e
      · split at hk <;> cases hk
end
/-! ### statements -/
def EndsOk (X : Cx) (M : Cm) (rx : Bool) (W : WX) (ρ : List Addr) (mh : MH) (H : Hp) (fl : Fl) (mh' : MH) (D : Ends) : Prop :=
  match fl with
  | .nx mσ => ∀ σ' H' ρ', RepH X.K ρ' mh' H' → RepS X M ρ' H' mσ σ' → Stp ρ mh H ρ' mh' H' → D.nx σ' H'
  | .brk mσ => ∀ σ' H' ρ', RepH X.K ρ' mh' H' → RepS X M ρ' H' mσ σ' → Stp ρ mh H ρ' mh' H' → D.bk σ' H'
  | .cont mσ => ∀ σ' H' ρ', RepH X.K ρ' mh' H' → RepS X M ρ' H' mσ σ' → Stp ρ mh H ρ' mh' H' → D.ct σ' H'
  | .ret mv => ((rx = true → decX mv = none) → Post X.K ρ mh H mv mh' D.rt) ∧ (rx = true → ∀ c fs, decX mv = some (c, fs) → ∀ σ', PostX X.mg X.K ρ mh H c fs mh' fun cls d H' => W cls d σ' H')
theorem EndsOk.after {X : Cx} {M : Cm} {rx : Bool} {W : WX} {ρ ρ1 : List Addr} {mh m1 mh' : MH} {H H1 : Hp} {fl : Fl} {D : Ends} (P : EndsOk X M rx W ρ mh H fl mh' D) (S : Stp ρ mh H ρ1 m1 H1) : EndsOk X M rx W ρ1 m1 H1 fl mh' D := by
  cases fl with
  | ret mv => exact ⟨fun n => Post.after (P.1 n) S, fun r c fs e σ' => (P.2 r c fs e σ').after S⟩
  | _ => exact fun σ' H' ρ' a b c => P σ' H' ρ' a b (S.trans c)
def SS (X : Cx) (M : Cm) (rx : Bool) (s : Stmt) (ms : MS) : Prop :=
  ∀ W, (rx = true → Takes X W) → ∀ σ H mσ mh ρ, RepH X.K ρ mh H → RepS X M ρ H mσ σ → ∀ fl mh', evS M ms mσ mh = .ok fl mh' → ∀ D, EndsOk X M rx W ρ mh H fl mh' D → tS1 X s D σ H
def SSs (X : Cx) (M : Cm) (rx : Bool) (ss : List Stmt) (mss : List MS) : Prop :=
  ∀ W, (rx = true → Takes X W) → ∀ σ H mσ mh ρ, RepH X.K ρ mh H → RepS X M ρ H mσ σ → ∀ fl mh', evSs M mss mσ mh = .ok fl mh' → ∀ D, EndsOk X M rx W ρ mh H fl mh' D → tSS X ss D σ H
section
variable {X : Cx} {M : Cm} {rx : Bool} {pr : CP} {k : Nat} {a b o i : Expr} {ma mb mo mi : ME} {pos : Pos} {st : Stmt} {ss ts : List Stmt} {ms : MS} {mss mts : List MS}
theorem sss_nil : SSs X M rx [] [] := by
  intro W tk σ H mσ mh ρ R S fl mh' e D P
  simp only [evSs] at e
  cases e
  exact ⟨_, pss_nil, P σ H ρ R S .refl⟩
theorem sss_cons (h1 : SS X M rx st ms) (h2 : SSs X M rx ss mss) : SSs X M rx (st :: ss) (ms :: mss) := by
  intro W tk σ H mσ mh ρ R S fl mh' e D P
  simp only [evSs] at e
  obtain ⟨f1, m1, e1, e⟩ := bind_ok e
  refine ⟨_, pss_cons ps_tS1 pss_tSS, h1 W tk σ H mσ mh ρ R S f1 m1 e1 _ ?_⟩
  cases f1 with
  | nx mσ1 => exact fun σ1 H1 ρ1 R1 S1 T1 => h2 W tk σ1 H1 mσ1 m1 ρ1 R1 S1 fl mh' e D (P.after T1)
  | ret v => cases e; exact P
  | brk _ => cases e; exact P
  | cont _ => cases e; exact P
theorem ss_pass : SS X M rx (.Pass pos) .pass := by
  intro W tk σ H mσ mh ρ R S fl mh' e D P
  simp only [evS] at e; cases e
  exact ⟨_, ps_pass, P σ H ρ R S .refl⟩
theorem ss_brk : SS X M rx (.Break pos) .brk := by
  intro W tk σ H mσ mh ρ R S fl mh' e D P
  simp only [evS] at e; cases e
  exact ⟨_, ps_break, P σ H ρ R S .refl⟩
theorem ss_cont : SS X M rx (.Continue pos) .cont := by
  intro W tk σ H mσ mh ρ R S fl mh' e D P
  simp only [evS] at e; cases e
  exact ⟨_, ps_continue, P σ H ρ R S .refl⟩
theorem ss_expr (hs : swapsWith a none pos.line X.env = pure false) (ha : SE X M a ma) : SS X M rx (.Expr a pos) (.expr ma) := by
  intro W tk σ H mσ mh ρ R S fl mh' e D P
  simp only [evS] at e
  obtain ⟨x, h1, e1, e⟩ := bind_ok e
  cases e
  exact ⟨_, ps_expr pe_tS hs, ha σ H mσ mh ρ R S x _ e1 _ fun v H1 ρ1 R1 r1 S1 => P σ H1 ρ1 R1 (S.stp R S1) S1⟩
theorem ss_doc {x : Str} {j : Nat} {p2 : Pos} : SS X M rx (.Expr (.Constant (.str x) j p2) pos) .pass := by
  intro W tk σ H mσ mh ρ R S fl mh' e D P
  simp only [evS] at e; cases e
  exact ⟨_, ps_doc, P σ H ρ R S .refl⟩
theorem ss_ret (hrx : rx = false) (ha : SE X M a ma) : SS X M rx (.Return (some a) pos) (.ret ma) := by
  intro W tk σ H mσ mh ρ R S fl mh' e D P
  simp only [evS] at e
  obtain ⟨x, h1, e1, e⟩ := bind_ok e
  cases e
  exact ⟨_, ps_ret pe_tS, ha σ H mσ mh ρ R S x _ e1 _ (P.1 fun h => by rw [hrx] at h; cases h)⟩
theorem ss_retC (ha : SE X M a ma) : SS X M rx (.Return (some a) pos) (.retC ma) := by
  intro W tk σ H mσ mh ρ R S fl mh' e D P
  simp only [evS] at e
  obtain ⟨x, h1, e1, e⟩ := bind_ok e
  split at e
  · cases e
    exact ⟨_, ps_ret pe_tS, ha σ H mσ mh ρ R S x _ e1 _ (P.1 fun _ => by assumption)⟩
  · cases e
theorem ss_retN : SS X M rx (.Return none pos) .retN := by
  intro W tk σ H mσ mh ρ R S fl mh' e D P
  simp only [evS] at e
  cases e
  exact ⟨_, ps_retN, Post.same (P.1 fun _ => rfl) R .non⟩
theorem ss_ite (hc : ST X M a ma) (h1 : SSs X M rx ss mss) (h2 : SSs X M rx ts mts) : SS X M rx (.If a ss ts pos) (.ite ma mss mts) := by
  intro W tk σ H mσ mh ρ R S fl mh' e D P
  simp only [evS] at e
  obtain ⟨x, m1, e1, e⟩ := bind_ok e
  refine ⟨_, ps_if pt_tT pss_tSS pss_tSS, ?_⟩
  split at e
  · refine hc σ H mσ mh ρ R S x m1 e1 true (by assumption) _ fun H1 ρ1 R1 S1 => ?_
    rw [if_pos rfl]
    exact h1 W tk σ H1 mσ m1 ρ1 R1 (S.stp R S1) fl mh' e D (P.after S1)
  · refine hc σ H mσ mh ρ R S x m1 e1 false (by assumption) _ fun H1 ρ1 R1 S1 => ?_
    rw [if_neg Bool.false_ne_true]
    exact h2 W tk σ H1 mσ m1 ρ1 R1 (S.stp R S1) fl mh' e D (P.after S1)
  · cases e
theorem ofO_ok {α : Type} {o : Option α} {h h' : MH} {v : α} (e : ofO o h = .ok v h') : o = some v ∧ h' = h := by
  cases o with
  | none => cases e
  | some b => cases e; exact ⟨rfl, rfl⟩
theorem ss_asg {tg : Expr} {mt : MT} (hs : swapsWithSole [tg] a pos.line X.env = pure false) (hw : swappedStores [tg] a X.env = pure none) (h1 : (assignEach [tg] X.env).map (·.2) = [assign tg X.env]) (ha : SE X M a ma) (hg : SG X M tg mt) : SS X M rx (.Assign [tg] a pos) (.asg mt ma) := by
  intro W tk σ H mσ mh ρ R S fl mh' e D P
  simp only [evS] at e
  obtain ⟨x, m1, e1, e⟩ := bind_ok e
  obtain ⟨e2, rfl⟩ := ofO_ok e
  cases q : asgT mt x mσ with
  | none => rw [q] at e2; cases e2
  | some mσ1 =>
    rw [q] at e2
    cases e2
    refine ⟨_, ps_asg pe_tS pg_tGt hs hw h1, ha σ H mσ mh ρ R S x _ e1 _ fun v H1 ρ1 R1 r1 S1 => ?_⟩
    exact hg σ H1 mσ mσ1 _ ρ1 v x R1 (S.stp R S1) r1 q _ fun σ' S' _ => P σ' H1 ρ1 R1 S' S1
/-- y = [..] on one line -/
theorem ss_asgLc {y : Str} {py : Pos} {j : Nat} {elt tg iter : Expr} {ifs : List Expr} {scope : Scope} {own : List (Str × Nat)} {lpos : Pos} {melt : ME} {mt : MT} {ik : IK} {mifs : List ME} (hc : X.calm = true) (hx : M.ex = none) (hN : X.N.Nodup) (hy : X.N[j]? = some y) (hyl : X.env.scope.names.lookup y = some .local)
    (hsw : swapsWith (.ListComp elt [⟨tg, iter, ifs, 0⟩] scope lpos) (some (.Name y py)) pos.line X.env = pure true) (ok : BlkOk X.N X.env.scope scope own)
    (hi : SI X M tg iter ik ma mb) (hsl : ∀ i ∈ mt.slots, i ∈ own.map (·.2))
    (hg : ∀ (s : Shared) (H : Hp) (C : Addr) (cl : List (Str × Addr)) (fp : List Addr), SG (X.blk s H scope (compEnvC scope cl C X.env) fp) M tg mt)
    (ht : ∀ (s : Shared) (H : Hp) (C : Addr) (cl : List (Str × Addr)) (fp : List Addr), STs (X.blk s H scope (compEnvC scope cl C X.env) fp) M ifs mifs)
    (he : ∀ (s : Shared) (H : Hp) (C : Addr) (cl : List (Str × Addr)) (fp : List Addr), SE (X.blk s H scope (compEnvC scope cl C X.env) fp) M elt melt)
    (hs : ∀ x, foldedSetIterable iter X.env x = pure x) :
    SS X M rx (.Assign [.Name y py] (.ListComp elt [⟨tg, iter, ifs, 0⟩] scope lpos) pos) (.asg (.nm j) (.lc melt mt ik ma mb mifs (own.map (·.2)))) := by
  intro W tk σ H mσ mh ρ R S fl mh' e D P
  simp only [evS] at e
  obtain ⟨x, m1, e1, e⟩ := bind_ok e
  obtain ⟨e2, rfl⟩ := ofO_ok e
  simp only [asgT, Option.map_some, Option.some.injEq] at e2
  subst e2
  refine ⟨_, ps_setLc hc hN hy hyl hsw pi_tIt ok (fun s H C cl fp => gLc_ok s H C cl fp) (fun s H C cl fp => ttLc_ok s H C cl fp) (fun s H C cl fp => teLc_ok s H C cl fp) hs, ?_⟩
  exact lc_rd hx (Q := fun v H1 => D.nx (σ.set j (some v)) H1) hi hsl hg ht he R S e1 fun v H1 ρ1 R1 r1 S1 => P _ H1 ρ1 R1 ((S.stp R S1).set r1 j fun _ _ _ z => by rw [hx] at z; cases z) S1
theorem ss_asgSub (hu : X.A.units + 1 < cLine) {p2 : Pos} (hs : swapsWithSole [.Subscript o i p2] a pos.line X.env = pure false) (hw : swappedStores [.Subscript o i p2] a X.env = pure none)
    (h1 : (assignEach [.Subscript o i p2] X.env).map (·.2) = [assign (.Subscript o i p2) X.env]) (hsub : ∀ {t : TSet}, PSet X t → PG X (.Subscript o i p2) (gSub (tS X o) (tS X i) t))
    (ha : SE X M a ma) (ho : SE X M o mo) (hi : SE X M i mi) : SS X M rx (.Assign [.Subscript o i p2] a pos) (.asgSub mo mi ma) := by
  intro W tk σ H mσ mh ρ R S fl mh' e D P
  simp only [evS] at e
  obtain ⟨x, m1, e1, e⟩ := bind_ok e
  obtain ⟨y, m2, e2, e⟩ := bind_ok e
  obtain ⟨z, m3, e3, e⟩ := bind_ok e
  split at e
  · rename_i m4 e4
    cases e
    obtain ⟨t, ht, hq⟩ := setS (X := X) hu e4
    refine ⟨_, ps_asg pe_tS (hsub ht) hs hw h1, ha σ H mσ mh ρ R S x _ e1 _ fun v H1 ρ1 R1 r1 S1 => ?_⟩
    refine ho σ H1 mσ m1 ρ1 R1 (S.stp R S1) y _ e2 _ fun w H2 ρ2 R2 r2 S2 => ?_
    refine hi σ H2 mσ m2 ρ2 R2 ((S.stp R S1).stp R1 S2) z _ e3 _ fun u H3 ρ3 R3 r3 S3 => ?_
    refine hq ρ3 H3 w u v R3 (r2.stp R2 S3) r3 ((r1.stp R1 S2).stp R2 S3) _ fun H4 R4 S4 => ?_
    exact P σ H4 ρ3 R4 ((((S.stp R S1).stp R1 S2).stp R2 S3).stp R3 S4) (((S1.trans S2).trans S3).trans S4)
  · cases e
/-! ### loops -/
theorem ss_whl (hp : PassesOwn (model X.prog X.w) X.A X.env X.xe) (hc : ST X M a ma) (hb : SSs X M rx ss mss) : SS X M rx (.While a ss [] pos) (.whl ma mss) := by
  intro W tk σ H mσ mh ρ R S fl mh' e D P
  simp only [evS] at e
  refine ⟨_, ps_while hp pt_tT pss_tSS, ?_⟩
  refine ⟨fun n σ1 H1 => ∃ mσ1 m1 ρ1, RepH X.K ρ1 m1 H1 ∧ RepS X M ρ1 H1 mσ1 σ1 ∧ Stp ρ mh H ρ1 m1 H1 ∧ whlGo (fun σ h => evE M ma σ h) (fun σ h => evSs M mss σ h) n mσ1 m1 = .ok fl mh', ⟨M.fuel, mσ, mh, ρ, R, S, .refl, e⟩, ?_⟩
  rintro n σ1 H1 ⟨mσ1, m1, ρ1, R1, S1, T1, e⟩
  cases n with
  | zero => cases e
  | succ n =>
    simp only [whlGo] at e
    obtain ⟨x, m2, e1, e⟩ := bind_ok e
    split at e
    · refine hc σ1 H1 mσ1 m1 ρ1 R1 S1 x m2 e1 true (by assumption) _ fun H2 ρ2 R2 T2 => ?_
      rw [if_pos rfl]
      obtain ⟨f1, m3, e3, e⟩ := bind_ok e
      refine ⟨fun σ' H' => ∃ mσ1 m1 ρ1, RepH X.K ρ1 m1 H' ∧ RepS X M ρ1 H' mσ1 σ' ∧ Stp ρ mh H ρ1 m1 H' ∧ whlGo (fun σ h => evE M ma σ h) (fun σ h => evSs M mss σ h) n mσ1 m1 = .ok fl mh', fun σ' H' z => ⟨n, by omega, z⟩, ?_⟩
      refine hb W tk σ1 H2 mσ1 m2 ρ2 R2 (S1.stp R1 T2) f1 m3 e3 _ ?_
      cases f1 with
      | nx mσ3 => exact fun σ3 H3 ρ3 R3 S3 T3 => ⟨mσ3, m3, ρ3, R3, S3, (T1.trans T2).trans T3, e⟩
      | cont mσ3 => exact fun σ3 H3 ρ3 R3 S3 T3 => ⟨mσ3, m3, ρ3, R3, S3, (T1.trans T2).trans T3, e⟩
      | brk mσ3 => cases e; exact fun σ3 H3 ρ3 R3 S3 T3 => P σ3 H3 ρ3 R3 S3 ((T1.trans T2).trans T3)
      | ret v => cases e; exact EndsOk.after (fl := .ret v) P (T1.trans T2)
    · cases e
      refine hc σ1 H1 mσ1 m1 ρ1 R1 S1 x _ e1 false (by assumption) _ fun H2 ρ2 R2 T2 => ?_
      rw [if_neg Bool.false_ne_true]
      exact P σ1 H2 ρ2 R2 (S1.stp R1 T2) (T1.trans T2)
    · cases e
theorem ss_for {tg iter : Expr} {mt : MT} {ik : IK} (hp : PassesOwn (model X.prog X.w) X.A X.env X.xe) (hc : X.calm = true) (hs : ∀ x, foldedSetIterable iter X.env x = pure x) (hi : SI X M tg iter ik ma mb) (hg : SG X M tg mt) (hb : SSs X M rx ss mss) :
    SS X M rx (.For tg iter ss [] pos) (.for_ mt ik ma mb mss) := by
  intro W tk σ H mσ mh ρ R S fl mh' e D P
  simp only [evS] at e
  obtain ⟨x, h1, e1, e⟩ := bind_ok e
  obtain ⟨y, h2, e2, e⟩ := bind_ok e
  split at e
  · rename_i it e3
    split at e
    · rename_i xs e4
      refine ⟨_, ps_for hp hc pi_tIt pg_tGt pss_tSS hs, ?_⟩
      refine hi σ H mσ mh ρ R S x h1 y h2 it e1 e2 e3 _ fun J H1 ρ1 R1 S1 ok1 => ?_
      have RS1 := S.stp R S1
      generalize hst : (fun (v : MV) (σ : MS') (h : MH) => forStep (asgT mt v σ) (fun σ h => evSs M mss σ h) h) = step at e
      refine ⟨fun i n σc Hc => ∃ mσc mc ρc, forGo it step n i mσc mc = .ok fl mh' ∧ RepH X.K ρc mc Hc ∧ RepS X M ρc Hc mσc σc ∧ Stp ρ1 h2 H1 ρc mc Hc, ⟨xs.length, mσ, h2, ρ1, e, R1, RS1, .refl⟩, ?_⟩
      rintro i n σc Hc ⟨mσc, mc, ρc, ec, Rc, RSc, Tc⟩
      cases n with
      | zero =>
        simp only [forGo] at ec
        split at ec
        · cases ec
          exact .inl ⟨(ok1 ρc _ Hc Rc Tc i).2 (by assumption), P σc Hc ρc Rc RSc (S1.trans Tc)⟩
        · cases ec
      | succ n =>
        simp only [forGo] at ec
        split at ec
        · rename_i v ev
          obtain ⟨f1, m4, e6, ec⟩ := bind_ok ec
          obtain ⟨go, yl⟩ := (ok1 ρc mc Hc Rc Tc i).1 _ _ ev
          refine .inr ⟨go, fun σ' H' => ∃ mσc mc ρc, forGo it step n (i + 1) mσc mc = .ok fl mh' ∧ RepH X.K ρc mc H' ∧ RepS X M ρc H' mσc σ' ∧ Stp ρ1 h2 H1 ρc mc H', fun σ' H' z => ⟨n, by omega, z⟩, fun xv H' hy => ?_⟩
          obtain ⟨ρy, Ry, Sy, ry⟩ := yl xv H' hy
          rw [← hst] at e6
          simp only [forStep] at e6
          split at e6
          · rename_i mσ2 e7
            refine hg σc H' mσc mσ2 mc ρy xv v Ry (RSc.stp Rc Sy) ry e7 _ fun σ2 RS2 _ => ?_
            refine hb W tk σ2 H' mσ2 mc ρy Ry RS2 f1 m4 e6 _ ?_
            have T2 := Tc.trans Sy
            cases f1 with
            | nx mσ3 => exact fun σ3 H3 ρ3 R3 S3 T3 => ⟨mσ3, m4, ρ3, ec, R3, S3, T2.trans T3⟩
            | cont mσ3 => exact fun σ3 H3 ρ3 R3 S3 T3 => ⟨mσ3, m4, ρ3, ec, R3, S3, T2.trans T3⟩
            | brk mσ3 => cases ec; exact fun σ3 H3 ρ3 R3 S3 T3 => P σ3 H3 ρ3 R3 S3 (S1.trans (T2.trans T3))
            | ret v => cases ec; exact EndsOk.after (fl := .ret v) P (S1.trans T2)
          · cases e6
        · cases ec
    · cases e
  · cases e
end
end Mn

set_option maxHeartbeats 4000000
/-! SndX: defs that may raise, raise, try, the refusal at hand. -/
namespace Mn
open PySem PySem.Spec PyProof.Rows L2

theorem flat_any {K K' : PySem.W.Frag} {ρ ρ' : List Addr} {H H' : Hp} {m : MV} {v : V} (f : flatM m = true) (r : Rep K ρ H m v) : Rep K' ρ' H' m v := by
  cases r <;> first | exact .non | exact .bl _ | exact .int _ | exact .str _ | (simp [flatM] at f)
theorem fld_at : ∀ {fl : List Str} {fs : List MV} {x : Str} {m : MV}, (fl.zip fs).lookup x = some m → ∃ i : Nat, fl[i]? = some x ∧ fs[i]? = some m
  | [], _, x, m, h => by simp at h
  | _ :: _, [], x, m, h => by simp at h
  | f :: fl, g :: fs, x, m, h => by
    simp only [List.zip_cons_cons, List.lookup] at h
    split at h
    · rename_i hx
      cases h
      have : x = f := by simpa using hx
      subst this
      exact ⟨0, rfl, rfl⟩
    · obtain ⟨i, h1, h2⟩ := fld_at h
      exact ⟨i + 1, h1, h2⟩
theorem decX_is {mv : MV} {c : Str} {fs : List MV} (h : decX mv = some (c, fs)) : mv = encX c fs ∧ fs.all flatM = true := by
  unfold decX at h
  split at h
  · split at h
    · split at h
      · rename_i h1 h2
        cases h
        subst h1
        exact ⟨rfl, h2⟩
      · cases h
    · cases h
  · cases h
theorem decX_enc {c : Str} {fs : List MV} (h : fs.all flatM = true) : decX (encX c fs) = some (c, fs) := by
  simp [decX, encX, h]
section
variable {X : Cx} {M : Cm} {rx : Bool} {pr : CP} {k : Nat} {a : Expr} {es : List Expr} {ma : ME} {mes : List ME} {pos p pos2 : Pos} {W : WX}
/-- f(a, ..), f may raise -/
theorem call_x (c : EC X M pr k) (hcm : pr.cm = true) {f : Str} (hf : f ∈ pr.RX) (tk : Takes X W) (hg : Gl X f) (hdb : (f == ("__debug__" : Str)) = false) (he : starEach (a :: es) X.env = (false, eval a X.env) :: starEach es X.env)
    (hpl : (backTo pos (starEach es X.env)).any (·.1) = false) (h : SA X M (a :: es) mes) {σ : L2.St} {H : Hp} {mσ : MS'} {mh : MH} {ρ : List Addr} (R : RepH X.K ρ mh H) (S : RepS X M ρ H mσ σ) {mv : MV} {mh' : MH} (e : evE M (.call f mes) mσ mh = .ok mv mh') {Q : VK}
    (P : decX mv = none → Post X.K ρ mh H mv mh' Q) (PX : ∀ c fs, decX mv = some (c, fs) → PostX X.mg X.K ρ mh H c fs mh' fun cls d H' => W cls d σ H') : tS X (.Call (.Name f p) (a :: es) [] pos) σ H Q := by
  simp only [evE] at e
  obtain ⟨xs, h1, e1, e⟩ := bind_ok e
  obtain ⟨fa, fd, ps, hm, hk, hb, FF, hlen⟩ := c.callX f hf
  refine ⟨fun σ H Q => tA X (a :: es) σ H fun ws H1 => spX X.mg X.K M.call f ps.length ws H1 Q (WE W σ), ⟨fun pins s σ H Q I hq => ?_⟩, ?_⟩
  · refine wpAny_Call_Name_kw (ld_glob I hg hm ?_ hdb)
    refine PySem.W.callWith_K (h₀ := X.base) I.ok.mod.kin hk (thn (pa_tA.run pos pins s σ H _ I hq) fun us s1 ⟨vs, H1, I1, r, q⟩ => ⟨I1.kIn, ?_⟩) he hpl
    have hl : vs.length = ps.length := FF.len vs H1 Q _ q
    have hl2 : (us ++ []).length = ps.length := by rw [List.append_nil, ← r.length]; exact hl
    have hb' := hb s1 us I1.kIn hl2
    rw [List.append_nil] at hb'
    refine wpAny_call (codeAny_mono (FF.run X.A X.stack s1 H1 ⟨us, []⟩ us vs Q _ c.gd (c.room hcm) I1.env0 hb' r q) fun r s' hq => ?_)
    cases r with
    | error e => exact passAt tk σ pins H1 s1 e s' I1 hq
    | ok fl =>
      cases fl with
      | ret u => exact I1.after hq
      | _ => exact False.elim hq
  · refine h σ H mσ mh ρ R S xs h1 e1 _ fun ws H1 ρ1 R1 r1 S1 => ?_
    exact ⟨ρ1, h1, xs, mv, mh', R1, r1, hlen _ _ _ _ e, e, fun n => (P n).after S1, fun c fs n => (PX c fs n).after S1⟩
/-- where nothing is raised -/
theorem se_callN (c : EC X M pr k) (hcm : pr.cm = true) {f : Str} (hf : f ∈ pr.RX) (hg : Gl X f) (hdb : (f == ("__debug__" : Str)) = false) (he : starEach (a :: es) X.env = (false, eval a X.env) :: starEach es X.env)
    (hpl : (backTo pos (starEach es X.env)).any (·.1) = false) (h : SA X M (a :: es) mes) : SE X M (.Call (.Name f p) (a :: es) [] pos) (.callN f mes) := by
  intro σ H mσ mh ρ R S mv mh' e Q P
  simp only [evE] at e
  obtain ⟨xs, h1, e1, e⟩ := bind_ok e
  obtain ⟨v, h2, e2, e⟩ := bind_ok e
  split at e
  · cases e
    refine call_x c hcm hf takes0 hg hdb he hpl h R S (mv := mv) (mh' := mh') (by simp only [evE, e1, Mn.R.bind, e2]) (fun _ => P) fun c fs n => ?_
    rename_i hn
    rw [hn] at n; cases n
  · cases e
/-- x = f(..) -/
theorem ss_asgX (c : EC X M pr k) (hcm : pr.cm = true) (hrx : rx = true) {f : Str} (hf : f ∈ pr.RX) (hg : Gl X f) (hdb : (f == ("__debug__" : Str)) = false) (he : starEach (a :: es) X.env = (false, eval a X.env) :: starEach es X.env)
    (hpl : (backTo pos (starEach es X.env)).any (·.1) = false) (h : SA X M (a :: es) mes) {tg : Expr} {mt : MT} (hs : swapsWithSole [tg] (.Call (.Name f p) (a :: es) [] pos) pos2.line X.env = pure false) (hw : swappedStores [tg] (.Call (.Name f p) (a :: es) [] pos) X.env = pure none)
    (h1 : (assignEach [tg] X.env).map (·.2) = [assign tg X.env]) (hgt : SG X M tg mt) : SS X M rx (.Assign [tg] (.Call (.Name f p) (a :: es) [] pos) pos2) (.asgX mt f mes) := by
  intro W tk σ H mσ mh ρ R S fl mh' e D P
  simp only [evS] at e
  obtain ⟨x, m1, e1, e⟩ := bind_ok e
  refine ⟨_, ps_asg pe_tS pg_tGt hs hw h1, ?_⟩
  split at e
  · rename_i hd
    cases e
    exact call_x c hcm hf (tk hrx) hg hdb he hpl h R S e1 (fun n => by rw [hd] at n; cases n) fun c fs n => P.2 hrx c fs n σ
  · rename_i hd
    obtain ⟨e2, rfl⟩ := ofO_ok e
    cases q : asgT mt x mσ with
    | none => rw [q] at e2; cases e2
    | some mσ1 =>
      rw [q] at e2
      cases e2
      refine call_x c hcm hf (tk hrx) hg hdb he hpl h R S e1 (fun _ v H1 ρ1 R1 r1 S1 => ?_) fun c fs n => by rw [hd] at n; cases n
      exact hgt σ H1 mσ mσ1 _ ρ1 v x R1 (S.stp R S1) r1 q _ fun σ' S' _ => P σ' H1 ρ1 R1 S' S1
/-- f(..) -/
theorem ss_exprX (c : EC X M pr k) (hcm : pr.cm = true) (hrx : rx = true) {f : Str} (hf : f ∈ pr.RX) (hg : Gl X f) (hdb : (f == ("__debug__" : Str)) = false) (he : starEach (a :: es) X.env = (false, eval a X.env) :: starEach es X.env)
    (hpl : (backTo pos (starEach es X.env)).any (·.1) = false) (h : SA X M (a :: es) mes) (hs : swapsWith (.Call (.Name f p) (a :: es) [] pos) none pos2.line X.env = pure false) : SS X M rx (.Expr (.Call (.Name f p) (a :: es) [] pos) pos2) (.exprX f mes) := by
  intro W tk σ H mσ mh ρ R S fl mh' e D P
  simp only [evS] at e
  obtain ⟨x, m1, e1, e⟩ := bind_ok e
  refine ⟨_, ps_expr pe_tS hs, ?_⟩
  split at e
  · rename_i hd
    cases e
    exact call_x c hcm hf (tk hrx) hg hdb he hpl h R S e1 (fun n => by rw [hd] at n; cases n) fun c fs n => P.2 hrx c fs n σ
  · rename_i hd
    cases e
    exact call_x c hcm hf (tk hrx) hg hdb he hpl h R S e1 (fun _ v H1 ρ1 R1 r1 S1 => P σ H1 ρ1 R1 (S.stp R S1) S1) fun c fs n => by rw [hd] at n; cases n
/-- return f(..) -/
theorem ss_retX (c : EC X M pr k) (hcm : pr.cm = true) (hrx : rx = true) {f : Str} (hf : f ∈ pr.RX) (hg : Gl X f) (hdb : (f == ("__debug__" : Str)) = false) (he : starEach (a :: es) X.env = (false, eval a X.env) :: starEach es X.env)
    (hpl : (backTo pos (starEach es X.env)).any (·.1) = false) (h : SA X M (a :: es) mes) : SS X M rx (.Return (some (.Call (.Name f p) (a :: es) [] pos)) pos2) (.retX f mes) := by
  intro W tk σ H mσ mh ρ R S fl mh' e D P
  simp only [evS] at e
  obtain ⟨x, m1, e1, e⟩ := bind_ok e
  cases e
  refine ⟨_, ps_ret pe_tS, ?_⟩
  exact call_x c hcm hf (tk hrx) hg hdb he hpl h R S e1 (fun n => P.1 fun _ => n) fun c fs n => P.2 hrx c fs n σ
/-- raise C(..) -/
theorem ss_raise (c : EC X M pr k) (hcm : pr.cm = true) (hk2 : 2 ≤ k) (hrx : rx = true) {cl : Str} (hf : cl ∈ pr.CL) (hg : Gl X cl) (hdb : (cl == ("__debug__" : Str)) = false) (he : starEach (a :: es) X.env = (false, eval a X.env) :: starEach es X.env)
    (hpl : (backTo pos (starEach es X.env)).any (·.1) = false) (h : SA X M (a :: es) mes) : SS X M rx (.Raise (some (.Call (.Name cl p) (a :: es) [] pos)) none pos2) (.raise cl mes) := by
  intro W tk σ H mσ mh ρ R S fl mh' e D P
  simp only [evS] at e
  obtain ⟨xs, m1, e1, e⟩ := bind_ok e
  split at e
  case isFalse => cases e
  rename_i hr
  cases e
  unfold raisable at hr
  rw [Bool.and_eq_true] at hr
  obtain ⟨hfl, hr⟩ := hr
  split at hr
  case h_2 => cases hr
  rename_i t ht
  obtain ⟨flds, anc⟩ := t
  have hlen : flds.length = xs.length := by simpa using hr
  obtain ⟨C, O⟩ := c.cls cl hf flds anc ht
  have hne : flds ≠ [] := by
    have := evEs_len e1
    intro z
    subst z
    unfold clsTab at ht
    repeat' split at ht
    all_goals cases ht
  obtain ⟨fI, fd, ps, iC, tI, hb, FI⟩ := O.init hne
  refine ⟨_, ps_raise (c.calm hcm) (tk hrx) (pmk_oex (dvs := []) (ds := []) O.T iC tI FI ((c.room hcm).mono (by omega)) hb .nil passL hg O.g pa_tA hdb he hpl), ?_⟩
  refine h σ H mσ mh ρ R S xs _ e1 _ fun ws H1 ρ1 R1 r1 S1 => ?_
  have hl1 := r1.length
  have hfl4 : flds.length ≤ 2 := by
    unfold clsTab at ht
    repeat' split at ht
    all_goals (cases ht; try decide)
  refine ⟨by omega, fun a0 ha0 => ?_⟩
  refine ⟨a0, ws ++ [], rfl, by simp; omega, upd_same, fun H2 d l hd hda h2a h2d hoth hls => ?_⟩
  have hd1 : H1 d = none := by rw [upd_ne hda] at hd; exact hd
  refine ⟨rfl, d, l, h2a, h2d, hd1, ?_⟩
  have hH : upd (L2.del H2 a0) d (.xd l) = upd H1 d (.xd l) := by
    funext b
    by_cases hbd : b = d
    · subst hbd; rw [upd_same, upd_same]
    · rw [upd_ne hbd, upd_ne hbd]
      by_cases hba : b = a0
      · subst hba; rw [del_same, ha0]
      · rw [del_ne hba, hoth b hba hbd, upd_ne hba]
  rw [hH]
  obtain ⟨f1, _, _⟩ := R1.fresh (ho := .xd l) hd1
  refine (P.2 hrx cl xs (decX_enc hfl) σ).after S1 _ ρ1 d l C f1 (Stp.out .refl hd1) upd_same (fun x m hx => ?_) O.g
  unfold fldXM at hx
  rw [ht, Option.bind_some, if_pos hlen] at hx
  obtain ⟨i, g1, g2⟩ := fld_at hx
  obtain ⟨v, g3, g4⟩ := r1.get g2
  refine ⟨v, hls i x v g1 (by rw [List.append_nil]; exact g3), fun K' ρ' H' => flat_any ?_ g4⟩
  exact List.all_eq_true.mp hfl m (List.mem_of_getElem? g2)
/-! ### the refusal at hand -/
theorem at_ok {ki : Nat} {c : Str} {fs : List MV} (e : M.at ki = some (c, fs)) : M.ex = some (c, fs, ki) := by
  unfold Cm.at at e
  split at e
  · rename_i h
    split at e
    · rename_i hk
      cases e
      subst hk
      exact h
    · cases e
  · cases e
def rIsX (X : Cx) : List V → Hp → VK → Prop := fun xs H Q => ∃ (a : Addr) (oe : Obj) (dd : Addr) (l : List (Str × V)) (C : Addr) (v : V) (b : Bool), (a, oe) ∈ X.pn ∧ oe.cls = .ref C ∧ oe.dict = some dd ∧ (∃ vs, oe.data = .fields vs) ∧ H dd = some (.xd l) ∧ ExcC X.K C ∧ xs = [.ref a, v] ∧
  ((∃ u, ClsV v u ∧ PySem.W.kitOne X.K (.ref C) u = some b) ∨ ∃ (tp : Addr) (cs : List V) (us : List Value), v = .ref tp ∧ H tp = some (.tup cs) ∧ Paired ClsV cs us ∧ PySem.W.kitAny X.K (.ref C) us = some b) ∧ Q (.bl b) H
theorem inst_of {pins : List (Addr × Obj)} {σ : L2.St} {H : Hp} {s : Shared} (I : Inv X pins σ H s) {a : Addr} {oe : Obj} {dd : Addr} {l : List (Str × V)} {C : Addr} (hp : (a, oe) ∈ X.pn) (h1 : oe.cls = .ref C) (h2 : oe.dict = some dd) (h3 : ∃ vs, oe.data = .fields vs) (h4 : H dd = some (.xd l)) :
    ∃ od mA, PySem.W.InstAt s.heap a oe C (some od) ∧ s.heap.Ns1 dd mA ∧ (∀ f, RelO (l.lookup f) (mA f)) ∧ ∀ n : Str, PySem.W.lookIn n od = some (mA n) := by
  obtain ⟨ha, _⟩ := I.pin (a, oe) (List.mem_append_left _ hp)
  obtain ⟨mA, hns, hr⟩ := (show ObjOk X.prog X.w H s.heap dd (.xd l) from I.hok dd _ h4)
  obtain ⟨od, ho, hl⟩ := lookIn_ns hns
  obtain ⟨vs, hd⟩ := h3
  exact ⟨od, mA, ⟨ha, h1, by unfold PySem.W.notCls; rw [hd], by rw [h2]; exact ho⟩, hns, hr, fun n => by rw [hl]⟩
theorem call_isX : CallR X (.builtin "isinstance") (rIsX X) := by
  intro pins s σ H xs us Q I r h
  obtain ⟨a, oe, dd, l, C, v, b, hp, h1, h2, h3, h4, E, rfl, hc, q⟩ := h
  obtain ⟨u1, u2, rfl, r1, r2⟩ := vals2 r
  cases (show u1 = Value.ref a from r1)
  obtain ⟨od, mA, J, _⟩ := inst_of I hp h1 h2 h3 h4
  obtain ⟨cd, hcd, _⟩ := PySem.W.any_some E.hd
  have Z := PySem.W.kitx_exc (x := a) (ox := oe) (od := some od) (by rw [hcd]; rfl) E.hg E.hk E.hs E.ha E.hn E.ht E.hm
  rcases hc with ⟨u, k, e⟩ | ⟨tp, cs, ws, rfl, hT, k, e⟩
  · have ec := k.eq r2
    subst ec
    exact PySem.W.kia_one Z I.kIn J e (fun z => nomatch z) fun tk => ⟨.bl b, H, I.tok tk, rfl, q⟩
  · cases (show u2 = Value.ref tp from r2)
    obtain ⟨_, its, rv, ⟨oc, od', dt, sl⟩, g1, g2, n, g3⟩ := (show ObjOk X.prog X.w H s.heap tp (.tup cs) from I.hok tp _ hT)
    have e3 := ClsV.all k rv
    subst e3
    dsimp only at g2 g3
    subst g2 g3
    exact PySem.W.kia_tup Z I.kIn J g1 e (fun z => nomatch z) fun tk => ⟨.bl b, H, I.tok tk, rfl, q⟩
/-- a class by its name -/
theorem pe_cls {c : Str} {u : Value} {v : V} {pos : Pos} (h : clv X.mg c = some (u, v)) (hg : Gl X c) (hdb : (c == ("__debug__" : Str)) = false) : PE X (.Name c pos) (tC v) ∧ ClsV v u := by
  unfold clv at h
  split at h
  · rename_i C hC
    cases h
    exact ⟨⟨fun pins s σ H Q I q => ld_glob I hg hC ⟨.ref C, H, I, rfl, q⟩ hdb⟩, .own C⟩
  · rename_i hC
    split at h
    · rename_i hc
      cases h
      subst hc
      exact ⟨pe_bltn hg hC (u := .type _) PyProof.Rows.Boot.«ValueError» rfl (by decide) (by decide), .ty _⟩
    · cases h
  · cases h
theorem kit_any {K : PySem.W.Frag} {t : Value} {anc : List Str} {f : Str → Option (Value × V)} : ∀ {cs : List Str}, (∀ c ∈ cs, ∃ u v, f c = some (u, v) ∧ PySem.W.kitOne K t u = some (anc.contains c)) →
    ∃ us vs, cs.map f = (us.zip vs).map some ∧ us.length = cs.length ∧ vs.length = cs.length ∧ PySem.W.kitAny K t us = some (cs.any fun x => anc.contains x)
  | [], _ => ⟨[], [], rfl, rfl, rfl, kitAny_nil⟩
  | c :: cs, h => by
    obtain ⟨u, v, h1, h2⟩ := h c (by simp)
    obtain ⟨us, vs, g1, g2, g3, g4⟩ := kit_any (cs := cs) fun c hc => h c (by simp [hc])
    refine ⟨u :: us, v :: vs, by simp [h1, g1], by simp [g2], by simp [g3], kitAny_cons (b := anc.contains c) (r := (c :: cs).any fun x => anc.contains x) h2 (fun hb => ?_) fun hb => ?_⟩
    · rw [g4]; simp only [List.any_cons, hb, Bool.false_or]
    · simp only [List.any_cons, hb, Bool.true_or]
def nmOf : Expr → Option Str
  | .Name c _ => some c
  | _ => none
theorem pa_cls : ∀ {es : List Expr} {cs : List Str} {us : List Value} {vs : List V}, es.map nmOf = cs.map some → (∀ c ∈ cs, Gl X c ∧ (c == ("__debug__" : Str)) = false) → cs.map (clv X.mg) = (us.zip vs).map some → us.length = cs.length → vs.length = cs.length →
    PA X es (fun _ H Q => Q vs H) ∧ Paired ClsV vs us
  | [], [], [], [], _, _, _, _, _ => ⟨pa_nil, .nil⟩
  | e :: es, c :: cs, u :: us, v :: vs, h1, h2, h3, h4, h5 => by
    simp only [List.map_cons, List.cons.injEq, List.zip_cons_cons] at h1 h3
    obtain ⟨q1, q2⟩ := pa_cls h1.2 (fun c hc => h2 c (by simp [hc])) h3.2 (by simpa using h4) (by simpa using h5)
    obtain ⟨g1, g2⟩ := h2 c (by simp)
    cases e with
    | Name x px =>
      have z : x = c := Option.some.inj h1.1
      subst z
      obtain ⟨k1, k2⟩ := pe_cls (pos := px) h3.1 g1 g2
      exact ⟨pa_cons k1 q1 rfl, .cons k2 q2⟩
    | _ => exact absurd h1.1 (by simp [nmOf])
  | [], _ :: _, _, _, h, _, _, _, _ => by simp at h
  | _ :: _, [], _, _, h, _, _, _, _ => by simp at h
  | _, [], _ :: _, _, _, _, _, h, _ => by simp at h
  | _, [], _, _ :: _, _, _, _, _, h => by simp at h
  | _, _ :: _, [], _, _, _, _, h, _ => by simp at h
  | _, _ :: _, _ :: _, [], _, _, _, _, h => by simp at h
section
variable {ki : Nat} {n : Str} {px : Pos}
/-- isinstance(e, C) -/
theorem se_isX (c : EC X M pr k) (hN : X.N[ki]? = some n) (hv : Vis X.env.scope n) (hd : (n == ("__debug__" : Str)) = false ∧ (n == ("__classdict__" : Str)) = false) (hg : Gl X "isinstance") (hm : X.mg "isinstance" = none) {cl : Str} (hcl : cl ∈ pr.CL) (hgl : Gl X cl ∧ (cl == ("__debug__" : Str)) = false) :
    SE X M (.Call (.Name "isinstance" p) [.Name n px, .Name cl pos2] [] pos) (.isX ki [cl]) := by
  intro σ H mσ mh ρ R S mv mh' e Q P
  simp only [evE] at e
  split at e
  case h_2 => cases e
  rename_i cc fs hat
  have h1 := at_ok hat
  obtain ⟨b, e3, rfl, rfl⟩ := ofB_ok e
  obtain ⟨a, oe, dd, l, C, p1, p2, p3, p4, p5, p6, p7, p8⟩ := S.cur _ _ _ h1
  unfold isXM at e3
  cases ht : clsTab cc with
  | none => rw [ht] at e3; cases e3
  | some t =>
    rw [ht] at e3
    simp only [Option.map_some, Option.some.injEq, List.any_cons, List.any_nil, Bool.or_false] at e3
    subst e3
    obtain ⟨C', O⟩ := c.cls cc (c.cur _ _ _ _ h1 ht) t.1 t.2 ht
    have := O.g.symm.trans p7
    cases this
    obtain ⟨u, v, k1, k2, _⟩ := O.kit cl hcl
    obtain ⟨g1, g2⟩ := hgl
    obtain ⟨q1, q2⟩ := pe_cls (pos := pos2) k1 g1 g2
    exact ⟨_, pe_callB call_isX hg hm (by decide +kernel) (pa_cons (pe_var hN hv hd.1 hd.2) (pa_cons q1 pa_nil rfl) rfl) (by decide) (by decide) rfl rfl, _, p2, a, oe, dd, l, C, v, _, p1, p3, p4, p5, p6, O.e, rfl, .inl ⟨u, q2, k2⟩, P _ _ ρ R (.bl _) .refl⟩
/-- isinstance(e, (C, ..)) -/
theorem se_isXs (c : EC X M pr k) (hN : X.N[ki]? = some n) (hv : Vis X.env.scope n) (hd : (n == ("__debug__" : Str)) = false ∧ (n == ("__classdict__" : Str)) = false) (hg : Gl X "isinstance") (hm : X.mg "isinstance" = none) {es : List Expr} {cs : List Str} {kk : Nat}
    (hes : es.map nmOf = cs.map some) (hgl : ∀ c ∈ cs, Gl X c ∧ (c == ("__debug__" : Str)) = false) (hcl : ∀ c ∈ cs, c ∈ pr.CL) (hl : cs.length ≤ 100) :
    SE X M (.Call (.Name "isinstance" p) [.Name n px, .Tuple es kk pos2] [] pos) (.isX ki cs) := by
  intro σ H mσ mh ρ R S mv mh' e Q P
  simp only [evE] at e
  split at e
  case h_2 => cases e
  rename_i cc fs hat
  have h1 := at_ok hat
  obtain ⟨b, e3, rfl, rfl⟩ := ofB_ok e
  obtain ⟨a, oe, dd, l, C, p1, p2, p3, p4, p5, p6, p7, p8⟩ := S.cur _ _ _ h1
  unfold isXM at e3
  cases ht : clsTab cc with
  | none => rw [ht] at e3; cases e3
  | some t =>
    rw [ht] at e3
    simp only [Option.map_some, Option.some.injEq] at e3
    subst e3
    obtain ⟨C', O⟩ := c.cls cc (c.cur _ _ _ _ h1 ht) t.1 t.2 ht
    have := O.g.symm.trans p7
    cases this
    obtain ⟨us, vs, k1, k2, k3, k4⟩ := kit_any (K := X.K) (t := .ref C) (anc := t.2) (f := clv X.mg) (cs := cs) fun c hc => (by obtain ⟨u, v, z1, z2, _⟩ := O.kit c (hcl c hc); exact ⟨u, v, z1, z2⟩)
    obtain ⟨q1, q2⟩ := pa_cls hes hgl k1 k2 k3
    refine ⟨_, pe_callB call_isX hg hm (by decide +kernel) (pa_cons (pe_var hN hv hd.1 hd.2) (pa_cons (pe_tup q1) pa_nil rfl) rfl) (by decide) (by decide) rfl rfl, _, p2, ?_, fun tp htp => ?_⟩
    · have := sizeLine_eq; omega
    have hdd : upd H tp (.tup vs) dd = some (.xd l) := by rw [upd_ne (ne_of_none p6 htp)]; exact p6
    obtain ⟨f1, _, _⟩ := R.fresh (ho := .tup vs) htp
    exact ⟨a, oe, dd, l, C, .ref tp, _, p1, p3, p4, p5, hdd, O.e, rfl, .inr ⟨tp, vs, us, rfl, upd_same, q2, k4⟩, P _ _ ρ f1 (.bl _) (Stp.out .refl htp)⟩
/-- e.f -/
theorem se_fldX (c : EC X M pr k) (hN : X.N[ki]? = some n) (hv : Vis X.env.scope n) (hd : (n == ("__debug__" : Str)) = false ∧ (n == ("__classdict__" : Str)) = false) {x : Str} (hb : attributeBase (.Name n px) x X.env (eval (.Name n px) X.env) = eval (.Name n px) X.env) :
    SE X M (.Attribute (.Name n px) x pos) (.fldX ki x) := by
  intro σ H mσ mh ρ R S mv mh' e Q P
  simp only [evE] at e
  split at e
  case h_2 => cases e
  rename_i cc fs hat
  have h1 := at_ok hat
  obtain ⟨e3, rfl⟩ := ofO_ok e
  obtain ⟨a, oe, dd, l, C, p1, p2, p3, p4, p5, p6, p7, p8⟩ := S.cur _ _ _ h1
  obtain ⟨v, g1, g2⟩ := p8 x mv e3
  have ht : ∃ t, clsTab cc = some t ∧ x ∈ t.1 := by
    unfold fldXM at e3
    cases ht : clsTab cc with
    | none => rw [ht] at e3; cases e3
    | some t =>
      rw [ht, Option.bind_some] at e3
      split at e3
      · obtain ⟨i, z, _⟩ := fld_at e3
        exact ⟨t, rfl, List.mem_of_getElem? z⟩
      · cases e3
  obtain ⟨t, ht, hx⟩ := ht
  obtain ⟨C', O⟩ := c.cls cc (c.cur _ _ _ _ h1 ht) t.1 t.2 ht
  have := O.g.symm.trans p7
  cases this
  refine ⟨fun σ' H' Q' => tVar ki σ' H' fun w H1 => w = .ref a ∧ H1 = H ∧ Q' v H1, ⟨fun pins s σ' H' Q' I hq => ?_⟩, ⟨_, p2, rfl, rfl, P v H ρ R (g2 _ _ _) .refl⟩⟩
  refine attr_of hb (thn ((pe_var hN hv hd.1 hd.2).run pins s σ' H' _ I hq) fun u s1 ⟨w, H1, I1, rw', ew, eH, q⟩ => ?_)
  subst ew eH
  cases (show u = Value.ref a from rw')
  obtain ⟨od, mA, J, hns, hr, hl⟩ := inst_of I1 p1 p3 p4 p5 p6
  obtain ⟨u, hu, ru⟩ := RelO.some_of (v := v) (o := mA x) (by rw [← g1]; exact hr x)
  exact HandSPX.exc_get I1.kIn J O.x.ga O.x.gg O.x.exC (PySem.W.findObj_own O.x.hdC (O.nof x hx) rfl (by rw [hl, hu])) (handed_of ru) ⟨v, _, I1.tok _, ru, q⟩
/-- f(e) -/
theorem se_callE (c : EC X M pr k) (hk : 1 ≤ k) {f : Str} (hf : f ∈ pr.EF) (hg : Gl X f) (hdb : (f == ("__debug__" : Str)) = false) (hN : X.N[ki]? = some n) (hv : Vis X.env.scope n) (hd : (n == ("__debug__" : Str)) = false ∧ (n == ("__classdict__" : Str)) = false) :
    SE X M (.Call (.Name f p) [.Name n px] [] pos) (.callE f ki) := by
  intro σ H mσ mh ρ R S mv mh' e Q P
  simp only [evE] at e
  split at e
  case h_2 => cases e
  rename_i cc fs hat
  have h1 := at_ok hat
  obtain ⟨a, oe, dd, l, C, p1, p2, p3, p4, p5, p6, p7, p8⟩ := S.cur _ _ _ h1
  obtain ⟨fa, fd, y, hm, hkp, hb, FF⟩ := c.callE f hf
  refine ⟨fun σ' H' Q' => tVar ki σ' H' fun w H1 => w = .ref a ∧ H1 = H ∧ Post X.K ρ mh H mv mh' Q', ⟨fun pins s σ' H' Q' I hq => ?_⟩, ⟨_, p2, rfl, rfl, P⟩⟩
  refine wpAny_Call_Name_kw (ld_glob I hg hm ?_ hdb)
  refine PySem.W.callWith_K (h₀ := X.base) I.ok.mod.kin hkp (thn ((pa_cons (pe_var hN hv hd.1 hd.2) pa_nil rfl).run pos pins s σ' H' (fun ws H1 => ws = [.ref a] ∧ H1 = H ∧ Post X.K ρ mh H mv mh' Q') I ?_) fun us s1 hh => ?_) rfl rfl
  · obtain ⟨w, e1, rfl, rfl, q⟩ := hq
    exact ⟨_, e1, rfl, rfl, q⟩
  · obtain ⟨ws, H1, I1, r, rfl, rfl, q⟩ := hh
    refine ⟨I1.kIn, ?_⟩
    cases r with
    | @cons _ u0 _ ur ra rr =>
      cases rr
      cases (show u0 = Value.ref a from ra)
      have hb' := hb s1 [.ref a] I1.kIn rfl
      rw [List.append_nil] at hb'
      obtain ⟨ha, hH, hnl, hnf, hcell⟩ := I1.pin (a, oe) (List.mem_append_left _ p1)
      have hfs : a ∉ frs X.stack := fun hm => by
        rcases List.mem_cons.mp (I1.stkSub a hm) with z | z
        · exact hnl z
        · exact hnf z
      refine wpAny_call (codeAny_mono (FF.run X.A X.stack s1 _ ⟨[.ref a], []⟩ a cc fs Q' (fun _ _ _ => False) ρ mh mv mh' c.gd (c.roomh.mono hk) I1.env0 ⟨oe, dd, l, C, ⟨ha, hH, hfs, hcell⟩, p3, p4, p5, p6, p7, p8⟩ hb' R e q) fun r s' hq => ?_)
      cases r with
      | error e => exact (show False from hq).elim
      | ok fl =>
        cases fl with
        | ret u => exact I1.after hq
        | _ => exact False.elim hq
end
/-! ### try -/
theorem EC.tr (c : EC X M pr k) (pn : List (Addr × Obj)) (xe : Value → Shared → Prop) : EC (X.tr pn xe) M pr k := ⟨c.calm, c.nox, c.ek, c.nd, c.gd, c.room, c.roomh, c.k1, c.call, c.callX, c.callE, c.cls, c.cur, c.clsv, c.clsa, c.blt, c.gl⟩
theorem EC.suite (c : EC X M pr k) {c' : Str} {fs : List MV} {kk : Option Nat} (hc : c' ∈ pr.CL) (a : Addr) (pn : List (Addr × Obj)) : EC (X.suite a pn) (M.with kk c' fs) { pr with cm := false, ek := kk } k :=
  ⟨fun h => (by cases h), fun h => (by cases h), fun c1 fs1 k1 e => (by
    unfold Cm.with at e
    cases kk with
    | none => cases e
    | some kk => cases e; rfl), c.nd, c.gd, fun h => (by cases h), ⟨c.roomh.dp, c.roomh.un⟩, c.k1, c.call, c.callX, c.callE, c.cls, fun c1 fs1 k1 _ e _ => (by
    unfold Cm.with at e
    cases kk with
    | none => cases e
    | some kk => cases e; exact hc), c.clsv, c.clsa, c.blt, c.gl⟩
/-- what becomes of what the call tells -/
def stepW (w : Wr) (mt : MT) (v : MV) (σ : MS') : Option MS' := match wrapM w v with
  | some (some v') => asgT mt v' σ
  | some none => some σ
  | none => none
/-- a try's one statement -/
def BodyX (X : Cx) (M : Cm) (s : Stmt) (w : Wr) (mt : MT) (f : Str) (mes : List ME) : Prop :=
  ∀ W, Takes X W → ∀ σ H mσ mh ρ, RepH X.K ρ mh H → RepS X M ρ H mσ σ → ∀ mv mh', evE M (.call f mes) mσ mh = .ok mv mh' → ∀ D : Ends, (∀ c fs, decX mv = some (c, fs) → PostX X.mg X.K ρ mh H c fs mh' fun cls d H' => W cls d σ H') →
    (decX mv = none → ∃ mσ1, stepW w mt mv mσ = some mσ1 ∧ ∀ σ' H' ρ', RepH X.K ρ' mh' H' → RepS X M ρ' H' mσ1 σ' → Stp ρ mh H ρ' mh' H' → D.nx σ' H') → tS1 X s D σ H
section
variable {tg : Expr} {mt : MT} {f : Str} {j1 j2 j3 j4 : Nat} {p3 p4 p5 p6 : Pos}
theorem body_val (c : EC X M pr k) (hcm : pr.cm = true) (hf : f ∈ pr.RX) (hg : Gl X f) (hdb : (f == ("__debug__" : Str)) = false) (he : starEach (a :: es) X.env = (false, eval a X.env) :: starEach es X.env) (hpl : (backTo pos (starEach es X.env)).any (·.1) = false) (h : SA X M (a :: es) mes)
    (hs : swapsWithSole [tg] (.Call (.Name f p) (a :: es) [] pos) pos2.line X.env = pure false) (hw : swappedStores [tg] (.Call (.Name f p) (a :: es) [] pos) X.env = pure none) (h1 : (assignEach [tg] X.env).map (·.2) = [assign tg X.env]) (hgt : SG X M tg mt) :
    BodyX X M (.Assign [tg] (.Call (.Name f p) (a :: es) [] pos) pos2) .val mt f mes := by
  intro W tk σ H mσ mh ρ R S mv mh' e D PX P
  refine ⟨_, ps_asg pe_tS pg_tGt hs hw h1, call_x c hcm hf tk hg hdb he hpl h R S e (fun n v H1 ρ1 R1 r1 S1 => ?_) PX⟩
  obtain ⟨mσ1, q, P2⟩ := P n
  exact hgt σ H1 mσ mσ1 _ ρ1 v mv R1 (S.stp R S1) r1 q _ fun σ' S' _ => P2 σ' H1 ρ1 R1 S' S1
theorem body_drop (c : EC X M pr k) (hcm : pr.cm = true) (hf : f ∈ pr.RX) (hg : Gl X f) (hdb : (f == ("__debug__" : Str)) = false) (he : starEach (a :: es) X.env = (false, eval a X.env) :: starEach es X.env) (hpl : (backTo pos (starEach es X.env)).any (·.1) = false) (h : SA X M (a :: es) mes)
    (hs : swapsWith (.Call (.Name f p) (a :: es) [] pos) none pos2.line X.env = pure false) : BodyX X M (.Expr (.Call (.Name f p) (a :: es) [] pos) pos2) .drop mt f mes := by
  intro W tk σ H mσ mh ρ R S mv mh' e D PX P
  refine ⟨_, ps_expr pe_tS hs, call_x c hcm hf tk hg hdb he hpl h R S e (fun n v H1 ρ1 R1 r1 S1 => ?_) PX⟩
  obtain ⟨mσ1, q, P2⟩ := P n
  cases q
  exact P2 σ H1 ρ1 R1 (S.stp R S1) S1
theorem body_isT (c : EC X M pr k) (hcm : pr.cm = true) (hf : f ∈ pr.RX) (hg : Gl X f) (hdb : (f == ("__debug__" : Str)) = false) (he : starEach (a :: es) X.env = (false, eval a X.env) :: starEach es X.env) (hpl : (backTo pos (starEach es X.env)).any (·.1) = false) (h : SA X M (a :: es) mes)
    (hs : swapsWithSole [tg] (.Compare (.Call (.Name f p) (a :: es) [] pos) [.Is] [.Constant (.bool true) j1 p3] p4) pos2.line X.env = pure false) (hw : swappedStores [tg] (.Compare (.Call (.Name f p) (a :: es) [] pos) [.Is] [.Constant (.bool true) j1 p3] p4) X.env = pure none)
    (h1 : (assignEach [tg] X.env).map (·.2) = [assign tg X.env]) (hgt : SG X M tg mt) :
    BodyX X M (.Assign [tg] (.Compare (.Call (.Name f p) (a :: es) [] pos) [.Is] [.Constant (.bool true) j1 p3] p4) pos2) .isT mt f mes := by
  intro W tk σ H mσ mh ρ R S mv mh' e D PX P
  refine ⟨_, ps_asg (pe_cmpR op_is_bl pe_tS pe_bl rfl) pg_tGt hs hw h1, call_x c hcm hf tk hg hdb he hpl h R S e (fun n v H1 ρ1 R1 r1 S1 => ?_) PX⟩
  obtain ⟨mσ1, q, P2⟩ := P n
  cases r1 with
  | bl b =>
    have q' : asgT mt (.bl b) mσ = some mσ1 := q
    refine ⟨b, true, rfl, rfl, ?_⟩
    have hb : decide (b = true) = b := by cases b <;> rfl
    rw [hb]
    exact hgt σ H1 mσ mσ1 _ ρ1 (.bl b) (.bl b) R1 (S.stp R S1) (.bl b) q' _ fun σ' S' _ => P2 σ' H1 ρ1 R1 S' S1
  | _ => cases q
theorem body_ifT (c : EC X M pr k) (hcm : pr.cm = true) (hf : f ∈ pr.RX) (hg : Gl X f) (hdb : (f == ("__debug__" : Str)) = false) (he : starEach (a :: es) X.env = (false, eval a X.env) :: starEach es X.env) (hpl : (backTo pos (starEach es X.env)).any (·.1) = false) (h : SA X M (a :: es) mes)
    (hs : swapsWithSole [tg] (.Constant (.bool true) j2 p5) p6.line X.env = pure false) (hw : swappedStores [tg] (.Constant (.bool true) j2 p5) X.env = pure none) (h1 : (assignEach [tg] X.env).map (·.2) = [assign tg X.env]) (hgt : SG X M tg mt) :
    BodyX X M (.If (.Compare (.Call (.Name f p) (a :: es) [] pos) [.Is] [.Constant (.bool true) j1 p3] p4) [.Assign [tg] (.Constant (.bool true) j2 p5) p6] [] pos2) .ifT mt f mes := by
  intro W tk σ H mσ mh ρ R S mv mh' e D PX P
  refine ⟨_, ps_if (pt_cmpR op_is_bl pe_tS pe_bl rfl) (pss_one (ps_asg pe_bl pg_tGt hs hw h1)) pss_nil, call_x c hcm hf tk hg hdb he hpl h R S e (fun n v H1 ρ1 R1 r1 S1 => ?_) PX⟩
  obtain ⟨mσ1, q, P2⟩ := P n
  cases r1 with
  | bl b =>
    refine ⟨b, true, rfl, rfl, b, ?_, ?_⟩
    · cases b <;> rfl
    cases b with
    | true =>
      have q' : asgT mt (.bl true) mσ = some mσ1 := q
      rw [if_pos rfl]
      exact hgt σ H1 mσ mσ1 _ ρ1 (.bl true) (.bl true) R1 (S.stp R S1) (.bl true) q' _ fun σ' S' _ => P2 σ' H1 ρ1 R1 S' S1
    | false =>
      cases q
      rw [if_neg Bool.false_ne_true]
      exact P2 σ H1 ρ1 R1 (S.stp R S1) S1
  | _ => cases q
end
theorem names_of {x : Str} {u : Value} {v : V} (h : clv X.mg x = some (u, v)) (hg : Gl X x) (hdb : (x == ("__debug__" : Str)) = false) : Names X x u := by
  refine ⟨hg, hdb, ?_⟩
  unfold clv at h
  split at h
  · rename_i hC
    cases h
    exact .inl hC
  · rename_i hC
    split at h
    · rename_i hx
      cases h
      subst hx
      exact .inr ⟨hC, PyProof.Rows.Boot.«ValueError», by decide⟩
    · cases h
  · cases h
theorem ss_try_as (c : EC X M pr k) (hcm : pr.cm = true) (hrx : rx = false) (hst : X.stack = X.env :: X.outer) (hfr : X.env.frame = some X.env.locals) {s0 : Stmt} {w : Wr} {mt : MT} {f : Str} {x n : Str} {np pos' : Pos} {ki : Nat} {b0 : Stmt} {suite : List Stmt} {hd : List MS}
    (hi : X.N[ki]? = some n) (hln : X.env.kindOf n = some .local) (hx : x ∈ pr.CL) (hgx : Gl X x) (hdb : (x == ("__debug__" : Str)) = false)
    (hbody : ∀ pn xe, EC (X.tr pn xe) M pr k → BodyX (X.tr pn xe) M s0 w mt f mes)
    (hsuite : ∀ a oe pn c' fs, c' ∈ pr.CL → EC (X.suite a ((a, oe) :: pn)) (M.with (some ki) c' fs) { pr with cm := false, ek := some ki } k → SSs (X.suite a ((a, oe) :: pn)) (M.with (some ki) c' fs) false (b0 :: suite) hd) :
    SS X M rx (.Try [s0] [.ExceptHandler (some (.Name x np)) (some n) (b0 :: suite) pos'] [] [] pos) (.tryC w mt f mes x (some ki) hd) := by
  intro W0 _ σ H mσ mh ρ R S fl mh' e D P
  have nox := c.nox hcm
  simp only [evS] at e
  obtain ⟨mv, m1, e1, e⟩ := bind_ok e
  obtain ⟨u, v, hclv⟩ := c.clsv x hx
  refine ⟨_, ps_try_as (i := ki) (Wout := fun _ _ _ _ => False) (tb := fun W D σ H => ∀ pn xe, Takes (X.tr pn xe) W → tSS (X.tr pn xe) [s0] D σ H)
    (ts := fun a cls d D σ H => ∀ oe pn, Zc cls d oe → (∃ vs, oe.data = .fields vs) → tSS (X.suite a ((a, oe) :: pn)) (b0 :: suite) D σ H) hst hfr c.nd hi hln (names_of hclv hgx hdb) takes0
    (fun W pn xe tk _ => ⟨fun pins s σ H D I q => pss_tSS.run pins s σ H D I (q pn xe tk)⟩) (fun a oe cls d pn hz hf => ⟨fun pins s σ H D I q => pss_tSS.run pins s σ H D I (q oe pn hz hf)⟩), fun pn xe tk => ?_⟩
  refine ⟨_, pss_one ps_tS1, ?_⟩
  refine hbody pn xe (c.tr pn xe) _ tk σ H mσ mh ρ R (S.any rfl nox) mv m1 e1 _ (fun c' fs hdec => ?_) fun hdec => ?_
  · rw [hdec] at e
    dsimp only at e
    split at e
    case isFalse => cases e
    rename_i hsub
    obtain ⟨fl1, m2, e2, e⟩ := bind_ok e
    cases e
    intro H' ρ' dd l C R' S' hdd hfld hC
    have hC' : X.mg c' = some (.ref C) := hC
    cases ht : clsTab c' with
    | none => have hsub := hsub.1; unfold isXM at hsub; rw [ht] at hsub; cases hsub
    | some t =>
      have hcin := c.clsa c' t C ht hC'
      obtain ⟨C2, O⟩ := c.cls c' hcin t.1 t.2 ht
      have := O.g.symm.trans hC'
      cases this
      obtain ⟨u2, v2, k1, _, k3⟩ := O.kit x hx
      rw [hclv] at k1
      cases k1
      have hb : t.2.contains x = true := by
        have hsub := hsub.1
        unfold isXM at hsub
        rw [ht] at hsub
        simpa using hsub
      rw [hb] at k3
      refine ⟨true, k3, fun _ a ha oe pn2 hz hf => ?_, fun q => (by cases q)⟩
      have Sx := S.stp R S'
      have hlt : ki < σ.length := by
        have := hsub.2
        simp only [okK, decide_eq_true_eq] at this
        rw [S.len]; exact this
      have S2 : RepS (X.suite a ((a, oe) :: pn2)) (M.with (some ki) c' fs) ρ' H' (mσ.set ki none) (σ.set ki (some (.ref a))) := by
        refine ⟨by simp [Sx.len], fun i m q => ?_, fun c1 fs1 k1 q => ?_⟩
        · by_cases hik : i = ki
          · subst hik
            rw [List.getElem?_set_self (by rw [← Sx.len]; exact hlt)] at q
            cases q
          · rw [List.getElem?_set_ne (Ne.symm hik)] at q ⊢
            exact Sx.get i m q
        · unfold Cm.with at q
          cases q
          exact ⟨a, oe, dd, l, C, List.mem_cons_self, List.getElem?_set_self hlt, hz.1, hz.2, hf, hdd, hC', hfld⟩
      refine hsuite a oe pn2 c' fs hcin (c.suite hcin a _) (fun _ _ _ _ => False) (fun z => (by cases z)) _ H' _ m1 ρ' R' S2 fl1 _ e2 _ ?_
      have back : ∀ {mσ1 : MS'} {σ2 : L2.St} {H2 : Hp} {ρ2 : List Addr}, RepS (X.suite a ((a, oe) :: pn2)) (M.with (some ki) c' fs) ρ2 H2 mσ1 σ2 → RepS X M ρ2 H2 (wipeK (some ki) mσ1) (σ2.set ki none) := fun {mσ1 σ2 H2 ρ2} Q => by
        refine ⟨by simp [wipeK, Q.len], fun i m q => ?_, fun c1 fs1 k1 q => by rw [nox] at q; cases q⟩
        simp only [wipeK] at q
        by_cases hik : i = ki
        · subst hik
          by_cases hl : i < mσ1.length
          · rw [List.getElem?_set_self hl] at q; cases q
          · rw [List.getElem?_eq_none (by simp; omega)] at q; cases q
        · rw [List.getElem?_set_ne (Ne.symm hik)] at q ⊢
          exact Q.get i m q
      cases fl1 with
      | nx mσ1 => exact fun σ2 H2 ρ2 R2 Q2 T2 => P _ H2 ρ2 R2 (back Q2) (S'.trans T2)
      | brk mσ1 => exact fun σ2 H2 ρ2 R2 Q2 T2 => P _ H2 ρ2 R2 (back Q2) (S'.trans T2)
      | cont mσ1 => exact fun σ2 H2 ρ2 R2 Q2 T2 => P _ H2 ρ2 R2 (back Q2) (S'.trans T2)
      | ret v => exact ⟨fun _ => Post.after (P.1 fun z => by rw [hrx] at z; cases z) S', fun z => (by cases z)⟩
  · rw [hdec] at e
    dsimp only at e
    unfold stepW
    split at e
    · rename_i v' hw
      obtain ⟨e2, rfl⟩ := ofO_ok e
      cases q : asgT mt v' mσ with
      | none => rw [q] at e2; cases e2
      | some mσ1 =>
        rw [q] at e2
        cases e2
        exact ⟨mσ1, by first | (rw [hw]; exact q) | exact q | rfl, fun σ' H' ρ' R' S' T' => P σ' H' ρ' R' (S'.any rfl nox) T'⟩
    · rename_i hw
      cases e
      exact ⟨mσ, by first | rw [hw] | rfl, fun σ' H' ρ' R' S' T' => P σ' H' ρ' R' (S'.any rfl nox) T'⟩
    · cases e
theorem ss_try_only (c : EC X M pr k) (hcm : pr.cm = true) (hrx : rx = false) (hst : X.stack = X.env :: X.outer) (hfr : X.env.frame = some X.env.locals) {s0 : Stmt} {w : Wr} {mt : MT} {f : Str} {x : Str} {np pos' : Pos} {b0 : Stmt} {suite : List Stmt} {hd : List MS}
    (hx : x ∈ pr.CL) (hgx : Gl X x) (hdb : (x == ("__debug__" : Str)) = false)
    (hbody : ∀ pn xe, EC (X.tr pn xe) M pr k → BodyX (X.tr pn xe) M s0 w mt f mes)
    (hsuite : ∀ a oe pn c' fs, c' ∈ pr.CL → EC (X.suite a ((a, oe) :: pn)) (M.with none c' fs) { pr with cm := false, ek := none } k → SSs (X.suite a ((a, oe) :: pn)) (M.with none c' fs) false (b0 :: suite) hd) :
    SS X M rx (.Try [s0] [.ExceptHandler (some (.Name x np)) none (b0 :: suite) pos'] [] [] pos) (.tryC w mt f mes x none hd) := by
  intro W0 _ σ H mσ mh ρ R S fl mh' e D P
  have nox := c.nox hcm
  simp only [evS] at e
  obtain ⟨mv, m1, e1, e⟩ := bind_ok e
  obtain ⟨u, v, hclv⟩ := c.clsv x hx
  refine ⟨_, ps_try_only (Wout := fun _ _ _ _ => False) (tb := fun W D σ H => ∀ pn xe, Takes (X.tr pn xe) W → tSS (X.tr pn xe) [s0] D σ H)
    (ts := fun a cls d D σ H => ∀ oe pn, Zc cls d oe → (∃ vs, oe.data = .fields vs) → tSS (X.suite a ((a, oe) :: pn)) (b0 :: suite) D σ H) hst hfr (names_of hclv hgx hdb) takes0
    (fun W pn xe tk _ => ⟨fun pins s σ H D I q => pss_tSS.run pins s σ H D I (q pn xe tk)⟩) (fun a oe cls d pn hz hf => ⟨fun pins s σ H D I q => pss_tSS.run pins s σ H D I (q oe pn hz hf)⟩), fun pn xe tk => ?_⟩
  refine ⟨_, pss_one ps_tS1, ?_⟩
  refine hbody pn xe (c.tr pn xe) _ tk σ H mσ mh ρ R (S.any rfl nox) mv m1 e1 _ (fun c' fs hdec => ?_) fun hdec => ?_
  · rw [hdec] at e
    dsimp only at e
    split at e
    case isFalse => cases e
    rename_i hsub
    obtain ⟨fl1, m2, e2, e⟩ := bind_ok e
    cases e
    intro H' ρ' dd l C R' S' hdd hfld hC
    have hC' : X.mg c' = some (.ref C) := hC
    cases ht : clsTab c' with
    | none => have hsub := hsub.1; unfold isXM at hsub; rw [ht] at hsub; cases hsub
    | some t =>
      have hcin := c.clsa c' t C ht hC'
      obtain ⟨C2, O⟩ := c.cls c' hcin t.1 t.2 ht
      have := O.g.symm.trans hC'
      cases this
      obtain ⟨u2, v2, k1, _, k3⟩ := O.kit x hx
      rw [hclv] at k1
      cases k1
      have hb : t.2.contains x = true := by
        have hsub := hsub.1
        unfold isXM at hsub
        rw [ht] at hsub
        simpa using hsub
      rw [hb] at k3
      refine ⟨true, k3, fun _ a ha oe pn2 hz hf => ?_, fun q => (by cases q)⟩
      have Sx := S.stp R S'
      have S2 : RepS (X.suite a ((a, oe) :: pn2)) (M.with none c' fs) ρ' H' mσ σ := Sx.any rfl rfl
      refine hsuite a oe pn2 c' fs hcin (c.suite hcin a _) (fun _ _ _ _ => False) (fun z => (by cases z)) _ H' _ m1 ρ' R' S2 fl1 _ e2 _ ?_
      have back : ∀ {mσ1 : MS'} {σ2 : L2.St} {H2 : Hp} {ρ2 : List Addr}, RepS (X.suite a ((a, oe) :: pn2)) (M.with none c' fs) ρ2 H2 mσ1 σ2 → RepS X M ρ2 H2 (wipeK none mσ1) σ2 := fun {mσ1 σ2 H2 ρ2} Q => Q.any rfl nox
      cases fl1 with
      | nx mσ1 => exact fun σ2 H2 ρ2 R2 Q2 T2 => P _ H2 ρ2 R2 (back Q2) (S'.trans T2)
      | brk mσ1 => exact fun σ2 H2 ρ2 R2 Q2 T2 => P _ H2 ρ2 R2 (back Q2) (S'.trans T2)
      | cont mσ1 => exact fun σ2 H2 ρ2 R2 Q2 T2 => P _ H2 ρ2 R2 (back Q2) (S'.trans T2)
      | ret v => exact ⟨fun _ => Post.after (P.1 fun z => by rw [hrx] at z; cases z) S', fun z => (by cases z)⟩
  · rw [hdec] at e
    dsimp only at e
    unfold stepW
    split at e
    · rename_i v' hw
      obtain ⟨e2, rfl⟩ := ofO_ok e
      cases q : asgT mt v' mσ with
      | none => rw [q] at e2; cases e2
      | some mσ1 =>
        rw [q] at e2
        cases e2
        exact ⟨mσ1, by first | (rw [hw]; exact q) | exact q | rfl, fun σ' H' ρ' R' S' T' => P σ' H' ρ' R' (S'.any rfl nox) T'⟩
    · rename_i hw
      cases e
      exact ⟨mσ, by first | rw [hw] | rfl, fun σ' H' ρ' R' S' T' => P σ' H' ρ' R' (S'.any rfl nox) T'⟩
    · cases e
end
end Mn

set_option maxHeartbeats 4000000
/-! Fn: a def keeps the promise of its small run; the law's own call. -/
namespace Mn
open PySem PySem.Spec PyProof.Rows L2

section
variable {K : PySem.W.Frag} {ρ ρ' : List Addr} {mh mh' h h0 : MH} {H H' : Hp}
theorem trim_ok {v mv : MV} {w : V} (e : trimM h0 v h = .ok mv mh') (R0 : RepH K ρ h0 H) (R : RepH K ρ' h H') (r : Rep K ρ' H' v w) (S : Stp ρ h0 H ρ' h H') :
    ∃ ρ2, RepH K ρ2 mh' H' ∧ Rep K ρ2 H' mv w ∧ Stp ρ h0 H ρ2 mh' H' := by
  cases e
  exact ⟨ρ', R, r, S⟩
end
/-- where a def's body runs -/
structure BodyCx (X : Cx) (sc : Scope) (N : List Str) : Prop where
  sc : X.env.scope = sc
  N : X.N = N
  fn : ∀ x, X.fn x = true
  ps : PassesOwn (model X.prog X.w) X.A X.env X.xe
  st : X.stack = X.env :: X.outer
  fr : X.env.frame = some X.env.locals
theorem slots_start {N : List Str} {vs : List V} {ms : List MV} {n : Nat} {K : PySem.W.Frag} {ρ : List Addr} {H : Hp} (r : Reps K ρ H ms vs) (lenV : vs.length = n) :
    (L2.start N vs).length = (ms.map some ++ List.replicate (N.length - n) none).length ∧ ∀ (i : Nat) (m : MV), (ms.map some ++ List.replicate (N.length - n) none)[i]? = some (some m) → ∃ v, (L2.start N vs)[i]? = some (some v) ∧ Rep K ρ H m v := by
  refine ⟨?_, fun i m z => ?_⟩
  · unfold L2.start
    rw [List.length_append, List.length_append, List.length_map, List.length_map, List.length_replicate, List.length_replicate, r.length, lenV]
  · by_cases hi : i < ms.length
    · rw [List.getElem?_append_left (by simpa using hi)] at z
      rw [List.getElem?_map] at z
      cases z2 : ms[i]? with
      | none => rw [z2] at z; cases z
      | some m' =>
        rw [z2] at z
        cases z
        obtain ⟨v, g, rr⟩ := r.get z2
        refine ⟨v, ?_, rr⟩
        unfold L2.start
        rw [List.getElem?_append_left (by rw [List.length_map, ← r.length]; exact hi), List.getElem?_map, g]
        rfl
    · rw [List.getElem?_append_right (by simpa using hi)] at z
      obtain ⟨z1, z2⟩ := List.getElem?_eq_some_iff.mp z
      simp at z2
noncomputable abbrev cmOf (Γ : Str → Option FD) (gl : Str → Option MV) (W d : Nat) : Cm := { call := runF Γ gl W d, gl := gl, fuel := W, callE := runE Γ gl W }
section
variable {P : Program} {w : World} {K : PySem.W.Frag} {mg : Str → Option Value} {base : Heap} {x qual : Str} {st : Stmt} {f : Addr} {fd : FuncData} {N ps : List Str} {k W : Nat} {Γ : Str → Option FD} {gl : Str → Option MV} {d : Nat} {mb : List MS}
theorem spM_len (ws : List V) (H : Hp) (Q : VK) (E : XK) (h : spM K (runF Γ gl W (d + 1)) x ps.length ws H Q E) : ws.length = ps.length := by
  obtain ⟨ρ, mh, ms, mv, mh', R, r, hl, _⟩ := h
  rw [← r.length, hl]
theorem spX_len (ws : List V) (H : Hp) (Q : VK) (E : XK) (h : spX mg K (runF Γ gl W (d + 1)) x ps.length ws H Q E) : ws.length = ps.length := by
  obtain ⟨ρ, mh, ms, mv, mh', R, r, hl, _⟩ := h
  rw [← r.length, hl]
theorem fnG_of (FF : Fun K x qual st f fd) (S : FnScope N ps (defScope st)) (hΓ : Γ x = some ⟨ps.length, N.length, mb⟩)
    (hbody : ∀ X : Cx, X.prog = P → X.w = w → X.K = K → X.mg = mg → X.base = base → X.calm = true → X.A.guards = some [] → Room k X.A → BodyCx X (defScope st) N → X.env.scope.kind = .function → SSs X (cmOf Γ gl W d) false (defBody st) mb) :
    FnG P w K mg base (k + 1) f fd ps (spM K (runF Γ gl W (d + 1)) x ps.length) := by
  obtain ⟨oc, od, kV, doc, pm, an, cdv, ct, osl, rfl, lk, hcd⟩ := FF.ex
  refine ⟨spM_len, fun A outer s H args us vs Q E hg hr e0 hbt rv hsp => ?_⟩
  have lenV := spM_len vs H Q E hsp
  have inK : K.In s.heap := e0.mod.kin.keeps fun b o q => (e0.bs b o q).1
  have kinds : ∀ y ∈ ps.zip us, (defScope st).names.lookup y.1 = some .local ∨ ((defScope st).names.lookup y.1 = some .cell ∧ ((cellsFrom (s.heap.objs.size + 1) (defScope st).names []).lookup y.1).isSome = true) := fun y hy => by
    obtain ⟨n, u⟩ := y
    cases S.par n (List.of_mem_zip hy).1 with
    | inl q => exact Or.inl q
    | inr q => exact Or.inr ⟨q, PySem.W.cellsFrom_some _ _ _ (Or.inl q)⟩
  have hrec := PySem.W.codeRec_of inK hcd
  refine codeAny_call_function hr.depth (inK f _ lk) rfl S.co S.gen rfl hrec ?_
  refine hbt _ _ _ _ ?_
  refine wpAny_newFunctionEnv_cells S.kind kinds ?_
  intro env eenv s1 fresh
  subst eenv
  refine ⟨(e0.mod.nolimit.keeps fun b o q => (e0.bs b o q).1).keeps fresh.toInCall.keep, codeAny_func ?_⟩
  obtain ⟨ρ, mh, ms, mv, mh', R, r, hl, e, Pq⟩ := hsp
  simp only [runF, hΓ, hl, if_true] at e
  have init := inv_start (CX := NoX) (P := P) (w := w) (mg := mg) (base := base) (N := N) (E := E) S hr.hd e0 lenV rv fresh
  cases q : evSs (cmOf Γ gl W d) mb (ms.map some ++ List.replicate (N.length - ps.length) none) mh with
  | bad => rw [q] at e; cases e
  | exc _ _ _ => rw [q] at e; cases e
  | ok fl m1 =>
    rw [q] at e
    obtain ⟨g1, g2⟩ := slots_start (N := N) r lenV
    have main := hbody (cxOf NoX P w K mg base N qual (defScope st) f cdv A outer s H E).nox rfl rfl rfl rfl rfl rfl hg (hr.deeper _) ⟨rfl, rfl, fun _ => rfl, .never, rfl, rfl⟩ S.kind
      (fun _ _ _ _ => False) (fun z => by cases z) (L2.start N vs) H _ mh ρ R ⟨g1, g2, fun _ _ _ z => by cases z⟩ fl m1 q { nx := fun _ H' => Q .non H', rt := Q } (by
        cases fl with
        | nx mσ => exact fun σ' H' ρ' R' _ S' => by {
            obtain ⟨ρ2, a1, a2, a3⟩ := trim_ok e R R' .non S'
            exact Pq _ _ _ a1 a2 a3 }
        | ret v => exact ⟨fun _ w' H' ρ' R' r' S' => by {
            obtain ⟨ρ2, a1, a2, a3⟩ := trim_ok e R R' r' S'
            exact Pq _ _ _ a1 a2 a3 }, fun z => by cases z⟩
        | brk _ => cases e
        | cont _ => cases e)
    obtain ⟨t, ht, hq⟩ := main
    refine wpAny_mono (ht.nox.run [] s1 (L2.start N vs) H _ init hq) (fun fl' s' hs => ?_) fun e' s' hs => hs
    cases fl' with
    | ret u => obtain ⟨v, σ', H', J, rv', qv⟩ := hs; exact ⟨v, H', J.os, J.bare, J.base, J.hok, rv', qv⟩
    | next => obtain ⟨σ', H', J, qv⟩ := hs; exact ⟨V.non, H', J.os, J.bare, J.base, J.hok, rfl, qv⟩
    | brk => obtain ⟨_, _, _, qv⟩ := hs; exact (show False from qv).elim
    | cont => obtain ⟨_, _, _, qv⟩ := hs; exact (show False from qv).elim
/-- .. of a def that may raise -/
theorem fnX_of (FF : Fun K x qual st f fd) (S : FnScope N ps (defScope st)) (hΓ : Γ x = some ⟨ps.length, N.length, mb⟩)
    (hbody : ∀ X : Cx, X.prog = P → X.w = w → X.K = K → X.mg = mg → X.base = base → X.calm = true → X.A.guards = some [] → Room k X.A → BodyCx X (defScope st) N → X.env.scope.kind = .function → SSs X (cmOf Γ gl W d) true (defBody st) mb) :
    FnX P w K mg base (k + 1) f fd ps (spX mg K (runF Γ gl W (d + 1)) x ps.length) := by
  obtain ⟨oc, od, kV, doc, pm, an, cdv, ct, osl, rfl, lk, hcd⟩ := FF.ex
  refine ⟨spX_len, fun A outer s H args us vs Q E hg hr e0 hbt rv hsp => ?_⟩
  have lenV := spX_len vs H Q E hsp
  have inK : K.In s.heap := e0.mod.kin.keeps fun b o q => (e0.bs b o q).1
  have kinds : ∀ y ∈ ps.zip us, (defScope st).names.lookup y.1 = some .local ∨ ((defScope st).names.lookup y.1 = some .cell ∧ ((cellsFrom (s.heap.objs.size + 1) (defScope st).names []).lookup y.1).isSome = true) := fun y hy => by
    obtain ⟨n, u⟩ := y
    cases S.par n (List.of_mem_zip hy).1 with
    | inl q => exact Or.inl q
    | inr q => exact Or.inr ⟨q, PySem.W.cellsFrom_some _ _ _ (Or.inl q)⟩
  have hrec := PySem.W.codeRec_of inK hcd
  refine codeAny_call_function hr.depth (inK f _ lk) rfl S.co S.gen rfl hrec ?_
  refine hbt _ _ _ _ ?_
  refine wpAny_newFunctionEnv_cells S.kind kinds ?_
  intro env eenv s1 fresh
  subst eenv
  refine ⟨(e0.mod.nolimit.keeps fun b o q => (e0.bs b o q).1).keeps fresh.toInCall.keep, codeAny_func ?_⟩
  obtain ⟨ρ, mh, ms, mv, mh', R, r, hl, e, Pq, Px⟩ := hsp
  simp only [runF, hΓ, hl, if_true] at e
  have init := inv_start (CX := L2.CX P w) (P := P) (w := w) (mg := mg) (base := base) (N := N) (E := E) S hr.hd e0 lenV rv fresh
  cases q : evSs (cmOf Γ gl W d) mb (ms.map some ++ List.replicate (N.length - ps.length) none) mh with
  | bad => rw [q] at e; cases e
  | exc _ _ _ => rw [q] at e; cases e
  | ok fl m1 =>
    rw [q] at e
    obtain ⟨g1, g2⟩ := slots_start (N := N) r lenV
    have main := hbody (cxOf (L2.CX P w) P w K mg base N qual (defScope st) f cdv A outer s H E) rfl rfl rfl rfl rfl rfl hg (hr.deeper _) ⟨rfl, rfl, fun _ => rfl, L2.passes_of rfl, rfl, rfl⟩ S.kind
      (fun cls d _ H => E cls d H) (fun _ => takes_of rfl rfl rfl rfl) (L2.start N vs) H _ mh ρ R ⟨g1, g2, fun _ _ _ z => by cases z⟩ fl m1 q { nx := fun _ H' => Q .non H', rt := Q } (by
        cases fl with
        | nx mσ =>
          cases e
          exact fun σ' H' ρ' R' _ S' => Pq rfl _ _ _ R' .non S'
        | ret v =>
          cases e
          exact ⟨fun n => Pq (n rfl), fun _ c fs n _ => Px c fs n⟩
        | brk _ => cases e
        | cont _ => cases e)
    obtain ⟨t, ht, hq⟩ := main
    refine wpAny_mono (ht.run [] s1 (L2.start N vs) H _ init hq) (fun fl' s' hs => ?_) fun e' s' hs => hs
    cases fl' with
    | ret u => obtain ⟨v, σ', H', J, rv', qv⟩ := hs; exact ⟨v, H', J.os, J.bare, J.base, J.hok, rv', qv⟩
    | next => obtain ⟨σ', H', J, qv⟩ := hs; exact ⟨V.non, H', J.os, J.bare, J.base, J.hok, rfl, qv⟩
    | brk => obtain ⟨_, _, _, qv⟩ := hs; exact (show False from qv).elim
    | cont => obtain ⟨_, _, _, qv⟩ := hs; exact (show False from qv).elim
/-- .. of a def whose one parameter is a refusal -/
theorem fnE_of {y : Str} (FF : Fun K x qual st f fd) (S : FnScope N [y] (defScope st)) (hΓ : Γ x = some ⟨1, N.length, mb⟩)
    (hbody : ∀ (X : Cx) (c : Str) (fs : List MV), X.prog = P → X.w = w → X.K = K → X.mg = mg → X.base = base → X.A.guards = some [] → L2H.RoomH 0 X.A → BodyCx X (defScope st) N → X.env.scope.kind = .function → (∃ C, mg c = some (.ref C)) →
      SSs X { call := fun _ _ _ => .bad, gl := gl, fuel := W, ex := some (c, fs, 0) } false (defBody st) mb) :
    FnE P w K mg base f fd [y] (runE Γ gl W x) := by
  obtain ⟨oc, od, kV, doc, pm, an, cdv, ct, osl, rfl, lk, hcd⟩ := FF.ex
  refine ⟨fun A outer s H args a c fs Q E ρ mh mv mh' hg hr e0 held hbt R e Pq => ?_⟩
  obtain ⟨oe, dd, l, C, hpin, h1, h2, h3, h4, h5, h6⟩ := held.ex
  have inK : K.In s.heap := e0.mod.kin.keeps fun b o q => (e0.bs b o q).1
  have kinds : ∀ z ∈ [y].zip [Value.ref a], (defScope st).names.lookup z.1 = some .local ∨ ((defScope st).names.lookup z.1 = some .cell ∧ ((cellsFrom (s.heap.objs.size + 1) (defScope st).names []).lookup z.1).isSome = true) := fun z hz => by
    obtain ⟨n, u⟩ := z
    cases S.par n (List.of_mem_zip hz).1 with
    | inl q => exact Or.inl q
    | inr q => exact Or.inr ⟨q, PySem.W.cellsFrom_some _ _ _ (Or.inl q)⟩
  have hrec := PySem.W.codeRec_of inK hcd
  refine codeAny_call_function hr.depth (inK f _ lk) rfl S.co S.gen rfl hrec ?_
  refine hbt _ _ _ _ ?_
  refine wpAny_newFunctionEnv_cells S.kind kinds ?_
  intro env eenv s1 fresh
  subst eenv
  refine ⟨(e0.mod.nolimit.keeps fun b o q => (e0.bs b o q).1).keeps fresh.toInCall.keep, codeAny_func ?_⟩
  simp only [runE, hΓ, if_true] at e
  have init := L2H.inv_startH (CX := NoX) (P := P) (w := w) (mg := mg) (base := base) (N := N) (E := E) (vs := [.ref a]) S hpin e0 rfl (.cons rfl .nil) fresh
  cases q : evSs { call := fun _ _ _ => .bad, gl := gl, fuel := W, ex := some (c, fs, 0) } mb (List.replicate N.length none) mh with
  | bad => rw [q] at e; cases e
  | exc _ _ _ => rw [q] at e; cases e
  | ok fl m1 =>
    rw [q] at e
    have npos : 0 < N.length := by
      have := congrArg List.length S.pre
      simp at this
      omega
    have slen : (L2.start N [V.ref a]).length = (List.replicate N.length (none : Option MV)).length := by simp [L2.start]; omega
    have main := hbody (L2H.cxH NoX P w K mg base N qual (defScope st) f cdv A outer s H E (a, oe)).nox c fs rfl rfl rfl rfl rfl hg (hr.deeper _) ⟨rfl, rfl, fun _ => rfl, .never, rfl, rfl⟩ S.kind ⟨C, h5⟩
      (fun _ _ _ _ => False) (fun z => by cases z) (L2.start N [.ref a]) H _ mh ρ R ⟨slen, fun i m z => (by
        rw [List.getElem?_replicate] at z
        split at z <;> (cases z)), fun c1 fs1 k1 z => by
        cases z
        exact ⟨a, oe, dd, l, C, List.mem_cons_self, by simp [L2.start], h1, h2, h3, h4, h5, h6⟩⟩ fl m1 q { nx := fun _ H' => Q .non H', rt := Q } (by
        cases fl with
        | nx mσ => cases e; exact fun σ' H' ρ' R' _ S' => Pq _ _ _ R' .non S'
        | ret v => cases e; exact ⟨fun _ => Pq, fun z => by cases z⟩
        | brk _ => cases e
        | cont _ => cases e)
    obtain ⟨t, ht, hq⟩ := main
    refine wpAny_mono (ht.nox.run [] s1 (L2.start N [.ref a]) H _ init hq) (fun fl' s' hs => ?_) fun e' s' hs => hs
    cases fl' with
    | ret u => obtain ⟨v, σ', H', J, rv', qv⟩ := hs; exact ⟨v, H', J.os, J.bare, J.base, J.hok, rv', qv⟩
    | next => obtain ⟨σ', H', J, qv⟩ := hs; exact ⟨V.non, H', J.os, J.bare, J.base, J.hok, rfl, qv⟩
    | brk => obtain ⟨_, _, _, qv⟩ := hs; exact (show False from qv).elim
    | cont => obtain ⟨_, _, _, qv⟩ := hs; exact (show False from qv).elim
end
end Mn

set_option maxHeartbeats 4000000
/-! Conv: from the program's syntax to the small one, checked. -/
namespace Mn
open PySem PySem.Spec PyProof.Rows L2

def visb (sc : Scope) (x : Str) : Bool := match sc.names.lookup x with
  | some .local => true
  | some .cell => true
  | some .free => true
  | _ => false
def glbb (sc : Scope) (x : Str) : Bool := match sc.names.lookup x with
  | some .globalImplicit => true
  | _ => false
def dbg (x : Str) : Bool := (x == ("__debug__" : Str)) || (x == ("__classdict__" : Str))
def slot (N : List Str) (x : Str) : Option Nat := match N.findIdx? (· == x) with
  | some i => if N[i]? = some x then some i else none
  | none => none
def noIf : Expr → Bool
  | .IfExp .. => false
  | _ => true
def plainE : Expr → Bool
  | .ListComp .. => false | .SetComp .. => false | .DictComp .. => false | .Starred .. => false | .Slice .. => false | .Set .. => false
  | .Call (.Name f _) [] [] _ => !(f == ("super" : Str))
  | _ => true
def noStar : Expr → Bool
  | .Starred .. => false
  | _ => true
def biOf (x : Str) : Option Bi := [Bi.len, .sum, .sorted, .tuple, .list, .int, .str, .repr, .all, .any, .min, .max, .abs].find? fun b => decide (b.nm = x)
def tyOf (x : Str) : Option Ty := [Ty.int, .bool, .str, .tuple, .list, .dict].find? fun b => decide (b.nm = x)
def meOf (x : Str) : Option Me := [Me.append, .extend, .pop, .insert, .count, .index, .reverse, .get, .items, .join, .split, .remove, .clear].find? fun b => decide (b.nm = x)
theorem biOf_nm {x : Str} {b : Bi} (h : biOf x = some b) : b.nm = x := by have := List.find?_some h; simpa using this
theorem tyOf_nm {x : Str} {b : Ty} (h : tyOf x = some b) : b.nm = x := by have := List.find?_some h; simpa using this
theorem meOf_nm {x : Str} {b : Me} (h : meOf x = some b) : b.nm = x := by have := List.find?_some h; simpa using this
/-- may this name be a target -/
def tgtb (fn : Str → Bool) (sc : Scope) (x : Str) : Bool := match sc.names.lookup x with
  | some .local => true
  | some .cell => fn x
  | _ => false
mutual
def cvT (p : CP) (fn : Str → Bool) (sc : Scope) : Expr → Option MT
  | .Name x _ => if tgtb fn sc x then (slot p.N x).bind fun i => if p.ek = some i then none else some (.nm i) else none
  | .Tuple ts _ _ => if p.cm then (cvTs p fn sc ts).map .tp else none
  | _ => none
def cvTs (p : CP) (fn : Str → Bool) (sc : Scope) : List Expr → Option (List MT)
  | [] => some []
  | t :: ts => if noStar t then match cvT p fn sc t, cvTs p fn sc ts with
    | some a, some b => some (a :: b)
    | _, _ => none else none
end
def ownOf (N : List Str) (scope : Scope) : List (Str × Nat) := scope.names.filterMap fun y => if y.2 == .local || y.2 == .cell then (slot N y.1).map fun i => (y.1, i) else none
def optAll : List (Option Expr) → Option (List Expr)
  | [] => some []
  | some e :: r => (optAll r).map (e :: ·)
  | none :: _ => none
theorem optAll_map : ∀ {ks : List (Option Expr)} {es : List Expr}, optAll ks = some es → ks = es.map some
  | [], _, h => by simp only [optAll] at h; cases h; rfl
  | none :: _, _, h => by simp [optAll] at h
  | some e :: r, _, h => by
    simp only [optAll] at h
    cases q : optAll r with
    | none => rw [q] at h; cases h
    | some es => rw [q] at h; cases h; rw [optAll_map q]; rfl
def nmsOf : List Expr → Option (List Str)
  | [] => some []
  | e :: es => match nmOf e, nmsOf es with
    | some c, some cs => some (c :: cs)
    | _, _ => none
theorem nmsOf_map : ∀ {es : List Expr} {cs : List Str}, nmsOf es = some cs → es.map nmOf = cs.map some
  | [], _, h => by simp only [nmsOf] at h; cases h; rfl
  | e :: es, _, h => by
    simp only [nmsOf] at h
    split at h
    · rename_i c cs h1 h2
      cases h
      simp [h1, nmsOf_map h2]
    · cases h
def clsb (p : CP) (sc : Scope) (c : Str) : Bool := p.CL.contains c && (glbb sc c && !dbg c)
def heldb (sc : Scope) (x : Str) : Bool := visb sc x && !dbg x
mutual
/-- refusals, sets -/
def cvEx (p : CP) (sc : Scope) : Nat → Expr → Option (Option ME)
  | 0, _ => none
  | n + 1, e => match e with
    | .Attribute (.Name x _) f _ => some (if heldb sc x then (slot p.N x).map fun i => .fldX i f else none)
    | .Call (.Name f _) (a :: es) [] _ =>
      if p.RX.contains f then some (if p.cm && (glbb sc f && !dbg f) then (cvA p sc n (a :: es)).map (.callN f) else none)
      else if p.EF.contains f then some (match a, es with
        | .Name x _, [] => if glbb sc f && !dbg f && heldb sc x then (slot p.N x).map fun i => .callE f i else none
        | _, _ => none)
      else if f = "isinstance" then match a, es with
        | .Name x _, [.Name c _] => if p.CL.contains c then some (if clsb p sc c && heldb sc x && (p.B.contains "isinstance" && glbb sc "isinstance") then (slot p.N x).map fun i => .isX i [c] else none) else none
        | .Name x _, [.Tuple ts _ _] => some (match nmsOf ts with
          | some cs => if cs.all (clsb p sc) && decide (cs.length ≤ 100) && heldb sc x && (p.B.contains "isinstance" && glbb sc "isinstance") then (slot p.N x).map fun i => .isX i cs else none
          | none => none)
        | _, _ => none
      else if f = "sorted" then match a, es with
        | .Call (.Name r _) [x] [] _, [] => if r = "set" then some (if p.cm && (p.B.contains "sorted" && glbb sc "sorted") && (p.B.contains "set" && glbb sc "set") && noStar x then (cvE p sc n x).map .srtS else none) else none
        | _, _ => none
      else if f = "len" then match a, es with
        | .Call (.Name r _) [x] [] _, [] => if r = "set" then some (if p.cm && (p.B.contains "len" && glbb sc "len") && (p.B.contains "set" && glbb sc "set") && noStar x then (cvE p sc n x).map .lenS else none) else none
        | _, _ => none
      else none
    | _ => none
def cvE (p : CP) (sc : Scope) : Nat → Expr → Option ME
  | 0, _ => none
  | n + 1, e => match cvEx p sc n e with
  | some r => r
  | none => match e with
    | .Constant (.int i) _ _ => some (.c (.int i))
    | .Constant (.bool b) _ _ => some (.c (.bl b))
    | .Constant .none _ _ => some (.c .non)
    | .Constant (.str x) _ _ => some (.c (.str x))
    | .Name x _ => if dbg x then none else if visb sc x then (slot p.N x).map .var else if glbb sc x && p.G.contains x then some (.glb x) else none
    | .BinOp a op b _ => match cvE p sc n a, cvE p sc n b with
      | some a, some b => some (.bin op a b)
      | _, _ => none
    | .UnaryOp .USub a _ => (cvE p sc n a).map .neg
    | .UnaryOp .Not a _ => if noIf a then (cvE p sc n a).map .not_ else none
    | .Compare a [op] [b] _ => if behindInMarks op b then none else match cvE p sc n a, cvE p sc n b with
      | some a, some b => some (.cmp op a b)
      | _, _ => none
    | .Compare a [o1, o2] [b, c] _ => if lastMarks [o1, o2] [b, c] then none else match cvE p sc n a, cvE p sc n b, cvE p sc n c with
      | some a, some b, some c => some (.chain o1 o2 a b c)
      | _, _, _ => none
    | .Compare a [o1, o2, o3] [b, c, d] _ => if lastMarks [o1, o2, o3] [b, c, d] then none else match cvE p sc n a, cvE p sc n b, cvE p sc n c, cvE p sc n d with
      | some a, some b, some c, some d => if pureM c then some (.and_ (.chain o1 o2 a b c) (.cmp o3 c d)) else none
      | _, _, _, _ => none
    | .BoolOp op [a] _ => if noIf a then cvE p sc n a else none
    | .BoolOp .And (a :: b :: r) pos => if noIf a then match cvE p sc n a, cvE p sc n (.BoolOp .And (b :: r) pos) with
      | some a, some b => some (.and_ a b)
      | _, _ => none else none
    | .BoolOp .Or (a :: b :: r) pos => if noIf a then match cvE p sc n a, cvE p sc n (.BoolOp .Or (b :: r) pos) with
      | some a, some b => some (.or_ a b)
      | _, _ => none else none
    | .IfExp c a b _ => if noIf c then match cvE p sc n c, cvE p sc n a, cvE p sc n b with
      | some c, some a, some b => some (.ife c a b)
      | _, _, _ => none else none
    | .Tuple es _ _ => match cvA p sc n es with
      | some es => if es.length ≤ 1000 then some (.tup es) else none
      | none => none
    | .List es _ => match cvA p sc n es with
      | some es => if es.length ≤ 1000 then some (.lst es) else none
      | none => none
    | .Subscript a (.Slice none none none _) _ => (cvE p sc n a).map .sl
    | .Subscript a (.Slice none none (some (.UnaryOp .USub (.Constant (.int 1) _ _) _)) _) _ => (cvE p sc n a).map .rev
    | .Subscript a (.Slice (some lo) none none _) _ => match cvE p sc n a, cvE p sc n lo with
      | some a, some b => some (.slL a b)
      | _, _ => none
    | .Subscript a (.Slice none (some hi) none _) _ => match cvE p sc n a, cvE p sc n hi with
      | some a, some b => some (.slH a b)
      | _, _ => none
    | .Subscript a (.Slice (some lo) (some hi) none _) _ => match cvE p sc n a, cvE p sc n lo, cvE p sc n hi with
      | some a, some b, some c => some (.slB a b c)
      | _, _, _ => none
    | .Subscript a b _ => if plainE b then match cvE p sc n a, cvE p sc n b with
      | some a, some b => some (.ix a b)
      | _, _ => none else none
    | .Dict ks vs _ => match optAll ks with
      | some ks => if ks.length = vs.length && ks.length ≤ 15 then (cvD p sc n ks vs).map .dsp else none
      | none => none
    | .Call (.Name f _) [] [] _ => if p.F.contains f && glbb sc f && !dbg f && p.cm then some (.call f []) else none
    | .Call (.Name f _) (a :: es) [] _ =>
      if p.F.contains f && glbb sc f && !dbg f && p.cm then (cvA p sc n (a :: es)).map (.call f) else
      if f = "isinstance" then match es with
        | [.Name t _] => if p.B.contains "isinstance" && glbb sc "isinstance" && p.B.contains t && glbb sc t && noStar a then match tyOf t, cvE p sc n a with
          | some t, some a => some (.isi a t)
          | _, _ => none else none
        | _ => none
      else match rngOf p sc n f a es with
      | some r => r
      | none => match biOf f with
        | some b => if p.B.contains f && glbb sc f && (p.cm || decide (b = .len)) then (cvA p sc n (a :: es)).map (.blt b) else none
        | none => none
    | .Call (.Attribute o m apos) [] [] cpos => if plainE o && (apos.endLine == cpos.line) then match meOf m, cvE p sc n o with
      | some m, some o => some (.meth m o [])
      | _, _ => none else none
    | .Call (.Attribute o m apos) (a :: es) [] cpos => if plainE o && (apos.endLine == cpos.line) && es.length ≤ 4 then match meOf m, cvE p sc n o, cvA p sc n (a :: es) with
      | some m, some o, some as => if m = .get && as.length > 2 then none else some (.meth m o as)
      | _, _, _ => none else none
    | .ListComp elt [⟨tg, iter, ifs, 0⟩] scope _ =>
      if plainI iter && blkC p.N sc scope (ownOf p.N scope) && p.cm then
      match cvI p sc n tg iter, cvT p (fun x => scope.names.lookup x == some .cell) (relS scope sc) tg, cvC p (relS scope sc) n ifs, cvE p (relS scope sc) n elt with
      | some (ik, a, b), some mt, some ifs, some elt => if mt.slots.all fun i => ((ownOf p.N scope).map (·.2)).contains i then some (.lc elt mt ik a b ifs ((ownOf p.N scope).map (·.2))) else none
      | _, _, _, _ => none else none
    | _ => none
/-- list(range(..)), tuple(range(..)) -/
def rngOf (p : CP) (sc : Scope) : Nat → Str → Expr → List Expr → Option (Option ME)
  | 0, _, _, _ => none
  | n + 1, f, a, es => match es, a with
    | [], .Call (.Name r _) [x] [] _ => if r = "range" && !p.F.contains r && (f = "list" || f = "tuple") then some (if p.B.contains "range" && glbb sc "range" && p.B.contains f && glbb sc f && noStar x && p.cm then
        (cvE p sc n x).map fun x => if f = "list" then .rngL (.c (.int 0)) x else .rngT (.c (.int 0)) x else none) else none
    | [], .Call (.Name r _) [x, y] [] _ => if r = "range" && !p.F.contains r && (f = "list" || f = "tuple") then some (if p.B.contains "range" && glbb sc "range" && p.B.contains f && glbb sc f && noStar x && noStar y && p.cm then
        match cvE p sc n x, cvE p sc n y with
        | some x, some y => some (if f = "list" then .rngL x y else .rngT x y)
        | _, _ => none else none) else none
    | _, _ => none
def cvD (p : CP) (sc : Scope) : Nat → List Expr → List Expr → Option (List ME)
  | 0, _, _ => none
  | _ + 1, [], [] => some []
  | n + 1, k :: ks, v :: vs => match cvE p sc n k, cvE p sc n v, cvD p sc n ks vs with
    | some k, some v, some r => some (k :: v :: r)
    | _, _, _ => none
  | _ + 1, _, _ => none
def cvA (p : CP) (sc : Scope) : Nat → List Expr → Option (List ME)
  | 0, _ => none
  | _ + 1, [] => some []
  | n + 1, e :: es => if noStar e then match cvE p sc n e, cvA p sc n es with
    | some a, some b => some (a :: b)
    | _, _ => none else none
def cvC (p : CP) (sc : Scope) : Nat → List Expr → Option (List ME)
  | 0, _ => none
  | _ + 1, [] => some []
  | n + 1, [c] => if noIf c then (cvE p sc n c).map ([·]) else none
  | _ + 1, _ => none
def cvI (p : CP) (sc : Scope) : Nat → Expr → Expr → Option (IK × ME × ME)
  | 0, _, _ => none
  | n + 1, tg, e => match e with
    | .Call (.Name f _) [a] [] _ => if f = "range" && !p.F.contains f then (if p.B.contains "range" && glbb sc "range" && noStar a then (cvE p sc n a).map fun a => (.rng1, a, .c .non) else none)
      else if f = "enumerate" && !p.F.contains f then (match tg with
        | .Tuple _ _ _ => if p.B.contains "enumerate" && glbb sc "enumerate" && noStar a then (cvE p sc n a).map fun a => (.enum, a, .c .non) else none
        | _ => none)
      else (cvE p sc n e).map fun a => (.val, a, .c .non)
    | .Call (.Name f _) [a, b] [] _ => if f = "range" && !p.F.contains f then (if p.B.contains "range" && glbb sc "range" && noStar a && noStar b then match cvE p sc n a, cvE p sc n b with
        | some a, some b => some (.rng2, a, b)
        | _, _ => none else none)
      else (cvE p sc n e).map fun a => (.val, a, .c .non)
    | e => (cvE p sc n e).map fun a => (.val, a, .c .non)
def plainI : Expr → Bool
  | .Set .. => false
  | _ => true
end
/-- where syntax stands -/
structure Stat (X : Cx) (sc : Scope) (fn : Str → Bool) (p : CP) : Prop where
  sc : X.env.scope = sc
  kind : X.env.scope.kind = .function
  N : X.N = p.N
  fn : ∀ x, fn x = true → X.fn x = true
section
variable {X : Cx} {sc : Scope} {fn : Str → Bool} {p : CP} {M : Cm} {k : Nat}
theorem slot_at {N : List Str} {x : Str} {i : Nat} (h : slot N x = some i) : N[i]? = some x := by
  unfold slot at h
  split at h
  · split at h
    · cases h; assumption
    · cases h
  · cases h
theorem Stat.vis (s : Stat X sc fn p) {x : Str} (h : visb sc x = true) : Vis X.env.scope x := by
  rw [s.sc]
  unfold visb at h
  split at h
  · exact .inl (by assumption)
  · exact .inr (.inl (by assumption))
  · exact .inr (.inr (by assumption))
  · cases h
theorem Stat.gl (s : Stat X sc fn p) {x : Str} (h : glbb sc x = true) : Gl X x := by
  show X.env.scope.names.lookup x = _
  rw [s.sc]
  unfold glbb at h
  split at h
  · assumption
  · cases h
theorem dbg_ne {x : Str} (h : dbg x = false) : (x == ("__debug__" : Str)) = false ∧ (x == ("__classdict__" : Str)) = false := by
  unfold dbg at h
  exact Bool.or_eq_false_iff.mp h
theorem star_ok {e : Expr} {es : List Expr} (h : noStar e = true) : starEach (e :: es) X.env = (false, eval e X.env) :: starEach es X.env := by
  cases e <;> first | rfl | (simp [noStar] at h)
theorem asg_ok {e : Expr} {es : List Expr} (h : noStar e = true) : assignEach (e :: es) X.env = (false, assign e X.env) :: assignEach es X.env := by
  cases e <;> first | rfl | (simp [noStar] at h)
theorem cvA_star : ∀ {n : Nat} {es : List Expr} {mes : List ME}, cvA p sc n es = some mes → es.all noStar = true
  | 0, _, _, h => by simp [cvA] at h
  | n + 1, [], _, _ => rfl
  | n + 1, e :: es, _, h => by
    simp only [cvA] at h
    split at h
    · split at h
      · cases h
        simp only [List.all_cons, Bool.and_eq_true]
        exact ⟨by assumption, cvA_star (by assumption)⟩
      · cases h
    · cases h
theorem back_ok {pos : Pos} : ∀ {es : List Expr}, es.all noStar = true → (backTo pos (starEach es X.env)).any (·.1) = false
  | [], _ => rfl
  | e :: es, h => by
    simp only [List.all_cons, Bool.and_eq_true] at h
    rw [star_ok h.1]
    have := back_ok (pos := pos) h.2
    simp only [backTo, List.map_cons, List.any_cons, Bool.false_or] at this ⊢
    exact this
theorem few_ok {pos : Pos} {es : List Expr} (h : es.all noStar = true) (hl : es.length ≤ 20) : ((backTo pos (starEach es X.env)).all (fun x => !x.1) && (backToKw pos (keywordEach [] X.env)).all (fun x => x.1.isSome)
    && decide (es.length + ([] : List Keyword).length + (if ([] : List Keyword).isEmpty then 0 else 1) < 30)) = true := by
  have h1 : (backTo pos (starEach es X.env)).all (fun x => !x.1) = true := by
    have := back_ok (X := X) (pos := pos) h
    rw [List.any_eq_false] at this
    rw [List.all_eq_true]
    intro x hx
    have := this x hx
    simpa using this
  rw [h1]
  simp [backToKw, keywordEach]
  omega
theorem attr_ok {o : Expr} {m : Str} (h : plainE o = true) : attributeBase o m X.env (eval o X.env) = eval o X.env := by
  unfold attributeBase
  split
  · rename_i id _ pos
    have hid : (id != ("super" : Str)) = true := by
      simp only [plainE, Bool.not_eq_true'] at h
      simp [bne, h]
    simp [hid]
  · rfl
theorem plain_ix {b : Expr} (h : plainE b = true) : PlainIx b := by
  intro o i
  cases b <;> first | rfl | (simp [plainE] at h)
theorem folded_ok {e : Expr} (h : plainI e = true) : ∀ x, foldedSetIterable e X.env x = pure x := by
  intro x
  cases e <;> first | rfl | (simp [plainI] at h)
theorem Stat.blk (s : Stat X sc fn p) {st : Shared} {H : Hp} {C : Addr} {cl : List (Str × Addr)} {fp : List Addr} {scope : Scope} {own : List (Str × Nat)} (ok : BlkOk X.N X.env.scope scope own) :
    Stat (X.blk st H scope (compEnvC scope cl C X.env) fp) (relS scope sc) (fun x => scope.names.lookup x == some .cell) p :=
  ⟨by rw [← s.sc]; rfl, ok.kind, s.N, fun x h => h⟩
mutual
theorem cvT_ok (s : Stat X sc fn p) (hc : p.cm = true → X.calm = true) (he : ∀ c fs k, M.ex = some (c, fs, k) → p.ek = some k) (nd : X.N.Nodup) : ∀ {e : Expr} {mt : MT}, cvT p fn sc e = some mt → SG X M e mt
  | .Name x pos, mt, h => by
    simp only [cvT] at h
    split at h
    · rename_i ht
      cases q : slot p.N x with
      | none => rw [q] at h; cases h
      | some i =>
        rw [q] at h
        rw [Option.bind_some] at h
        split at h
        · cases h
        rename_i hne
        cases h
        have hx : ∀ c fs k, M.ex = some (c, fs, k) → k ≠ i := fun c fs k z z2 => hne (by rw [← z2]; exact he c fs k z)
        have hi : X.N[i]? = some x := by rw [s.N]; exact slot_at q
        unfold tgtb at ht
        split at ht
        · rename_i hl
          have hl' : X.env.scope.names.lookup x = some .local := by rw [s.sc]; exact hl
          exact sg_nm hx nd hi (.inl hl') (.inr hl')
        · rename_i hl
          have hl' : X.env.scope.names.lookup x = some .cell := by rw [s.sc]; exact hl
          exact sg_nm hx nd hi (.inr hl') (.inl (s.fn x ht))
        · cases ht
    · cases h
  | .Tuple ts _ _, mt, h => by
    simp only [cvT] at h
    split at h
    · rename_i hcm
      cases q : cvTs p fn sc ts with
      | none => rw [q] at h; cases h
      | some mts => rw [q] at h; cases h; exact sg_tp (hc hcm) (cvTs_ok s hc he nd q)
    · cases h
theorem cvTs_ok (s : Stat X sc fn p) (hc : p.cm = true → X.calm = true) (he : ∀ c fs k, M.ex = some (c, fs, k) → p.ek = some k) (nd : X.N.Nodup) : ∀ {es : List Expr} {mts : List MT}, cvTs p fn sc es = some mts → SGs X M es mts
  | [], mts, h => by simp only [cvTs] at h; cases h; exact sgs_nil
  | t :: ts, mts, h => by
    simp only [cvTs] at h
    split at h
    · split at h
      · cases h
        exact sgs_cons (asg_ok (by assumption)) (cvT_ok s hc he nd (by assumption)) (cvTs_ok s hc he nd (by assumption))
      · cases h
    · cases h
end
/-! ### expressions -/
def Snds (X : Cx) (M : Cm) (e : Expr) (me : ME) : Prop := SE X M e me ∧ (noIf e = true → ST X M e me) ∧ ∀ op es pos, e = .BoolOp op es pos → SW X M e me
theorem snd_plain {e : Expr} {me : ME} (h : SE X M e me) (hb : ∀ op es pos, e ≠ .BoolOp op es pos) (he : noIf e = true → ∀ whole, isTrue e X.env whole = (do let v ← whole; standAt e.pos; holding [v] (truthy v))) : Snds X M e me :=
  ⟨h, fun q => st_plain h (he q), fun op es pos q => absurd q (hb op es pos)⟩
theorem and_b {a b : Bool} (h : (a && b) = true) : a = true ∧ b = true := by simpa using h
mutual
theorem cvEx_ok : ∀ (n : Nat) {X : Cx} {sc : Scope} {fn : Str → Bool} (c : EC X M p k) (s : Stat X sc fn p) (e : Expr) (me : ME), cvEx p sc n e = some (some me) → Snds X M e me
  | 0, _, _, _, _, _, _, _, h => by simp [cvEx] at h
  | n + 1, X, sc, fn, c, s, e, me, h => by
    have ih := fun e me h => (cvE_ok n c s e me h).1
    have held : ∀ {x : Str}, heldb sc x = true → Vis X.env.scope x ∧ (x == ("__debug__" : Str)) = false ∧ (x == ("__classdict__" : Str)) = false := fun {x} hh => by
      obtain ⟨h1, h2⟩ := and_b hh
      exact ⟨s.vis h1, dbg_ne (by simpa using h2)⟩
    have clsg : ∀ {x : Str}, clsb p sc x = true → x ∈ p.CL ∧ Gl X x ∧ (x == ("__debug__" : Str)) = false := fun {x} hh => by
      obtain ⟨h1, h2⟩ := and_b hh
      obtain ⟨h2, h3⟩ := and_b h2
      exact ⟨by simpa using h1, s.gl h2, (dbg_ne (by simpa using h3)).1⟩
    unfold cvEx at h
    split at h
    · rename_i x px f pos
      rw [Option.some.injEq] at h
      split at h
      · rename_i hh
        cases q : slot p.N x with
        | none => rw [q] at h; cases h
        | some i =>
          rw [q] at h
          cases h
          obtain ⟨h1, h2, h3⟩ := held hh
          exact snd_plain (se_fldX c (by rw [s.N]; exact slot_at q) h1 ⟨h2, h3⟩ (attr_ok rfl)) (by intros; nofun) fun _ _ => rfl
      · cases h
    · rename_i f pf a es pos
      split at h
      · rename_i hf
        rw [Option.some.injEq] at h
        split at h
        · rename_i hq
          obtain ⟨hcm, hq⟩ := and_b hq
          obtain ⟨h2, h3⟩ := and_b hq
          have hd := dbg_ne (by simpa using h3)
          cases q : cvA p sc n (a :: es) with
          | none => rw [q] at h; cases h
          | some mes =>
            rw [q] at h
            cases h
            have st := cvA_star q
            simp only [List.all_cons, Bool.and_eq_true] at st
            exact snd_plain (se_callN c hcm (by simpa using hf) (s.gl h2) hd.1 (star_ok st.1) (back_ok st.2) (cvA_ok n c s _ _ q)) (by intros; nofun) fun _ _ => rfl
        · cases h
      · split at h
        · rename_i hf
          rw [Option.some.injEq] at h
          split at h
          · rename_i x px
            split at h
            · rename_i hq
              obtain ⟨hq, hh⟩ := and_b hq
              obtain ⟨h2, h3⟩ := and_b hq
              have hd := dbg_ne (by simpa using h3)
              cases q : slot p.N x with
              | none => rw [q] at h; cases h
              | some i =>
                rw [q] at h
                cases h
                obtain ⟨g1, g2, g3⟩ := held hh
                exact snd_plain (se_callE c (c.k1 _ (by simpa using hf)) (by simpa using hf) (s.gl h2) hd.1 (by rw [s.N]; exact slot_at q) g1 ⟨g2, g3⟩) (by intros; nofun) fun _ _ => rfl
            · cases h
          · cases h
        · split at h
          · rename_i hf
            subst hf
            split at h
            · split at h
              · rw [Option.some.injEq] at h
                split at h
                · rename_i x px cl pc _ hq
                  obtain ⟨hq, hb⟩ := and_b hq
                  obtain ⟨hc, hh⟩ := and_b hq
                  obtain ⟨b1, b2⟩ := and_b hb
                  cases q : slot p.N x with
                  | none => rw [q] at h; cases h
                  | some i =>
                    rw [q] at h
                    cases h
                    obtain ⟨g1, g2, g3⟩ := held hh
                    obtain ⟨k1, k2⟩ := clsg hc
                    exact snd_plain (se_isX c (by rw [s.N]; exact slot_at q) g1 ⟨g2, g3⟩ (s.gl b2) (c.blt _ (by simpa using b1)) k1 k2) (by intros; nofun) fun _ _ => rfl
                · cases h
              · cases h
            · rw [Option.some.injEq] at h
              split at h
              · rename_i cs hcs
                split at h
                · rename_i x px ts kk pt _ hq
                  obtain ⟨hq, hb⟩ := and_b hq
                  obtain ⟨hq, hh⟩ := and_b hq
                  obtain ⟨hc, hl⟩ := and_b hq
                  obtain ⟨b1, b2⟩ := and_b hb
                  cases q : slot p.N x with
                  | none => rw [q] at h; cases h
                  | some i =>
                    rw [q] at h
                    cases h
                    obtain ⟨g1, g2, g3⟩ := held hh
                    have hc' := fun c hm => clsg (List.all_eq_true.mp hc c hm)
                    exact snd_plain (se_isXs c (by rw [s.N]; exact slot_at q) g1 ⟨g2, g3⟩ (s.gl b2) (c.blt _ (by simpa using b1)) (nmsOf_map hcs) (fun c hm => (hc' c hm).2) (fun c hm => (hc' c hm).1) (by simpa using hl)) (by intros; nofun) fun _ _ => rfl
                · cases h
              · cases h
            · cases h
          · split at h
            · rename_i hf
              subst hf
              split at h
              · split at h
                · rename_i hr
                  subst hr
                  rw [Option.some.injEq] at h
                  split at h
                  · rename_i x _ hq
                    obtain ⟨hq, hs⟩ := and_b hq
                    obtain ⟨hq, hb2⟩ := and_b hq
                    obtain ⟨hcm, hb⟩ := and_b hq
                    obtain ⟨b1, b2⟩ := and_b hb
                    obtain ⟨b3, b4⟩ := and_b hb2
                    cases q : cvE p sc n x with
                    | none => rw [q] at h; cases h
                    | some mx =>
                      rw [q] at h
                      cases h
                      exact snd_plain (se_srtS (c.calm hcm) (s.gl b2) (c.blt _ (by simpa using b1)) (s.gl b4) (c.blt _ (by simpa using b3)) (star_ok hs) (ih _ _ q)) (by intros; nofun) fun _ _ => rfl
                  · cases h
                · cases h
              · cases h
            · split at h
              · rename_i hf
                subst hf
                split at h
                · split at h
                  · rename_i hr
                    subst hr
                    rw [Option.some.injEq] at h
                    split at h
                    · rename_i x _ hq
                      obtain ⟨hq, hs⟩ := and_b hq
                      obtain ⟨hq, hb2⟩ := and_b hq
                      obtain ⟨hcm, hb⟩ := and_b hq
                      obtain ⟨b1, b2⟩ := and_b hb
                      obtain ⟨b3, b4⟩ := and_b hb2
                      cases q : cvE p sc n x with
                      | none => rw [q] at h; cases h
                      | some mx =>
                        rw [q] at h
                        cases h
                        exact snd_plain (se_lnS (c.calm hcm) (s.gl b2) (c.blt _ (by simpa using b1)) (s.gl b4) (c.blt _ (by simpa using b3)) (star_ok hs) (ih _ _ q)) (by intros; nofun) fun _ _ => rfl
                    · cases h
                  · cases h
                · cases h
              · cases h
    · cases h
theorem cvE_ok : ∀ (n : Nat) {X : Cx} {sc : Scope} {fn : Str → Bool} (c : EC X M p k) (s : Stat X sc fn p) (e : Expr) (me : ME), cvE p sc n e = some me → Snds X M e me
  | 0, _, _, _, _, _, _, _, h => by simp [cvE] at h
  | n + 1, X, sc, fn, c, s, e, me, h => by
    have hu := c.un
    have ih := fun e me h => (cvE_ok n c s e me h).1
    have iT := fun e me h (q : noIf e = true) => (cvE_ok n c s e me h).2.1 q
    unfold cvE at h
    split at h
    · rename_i r hr
      subst h
      exact cvEx_ok n c s _ _ hr
    rename_i hnn
    clear hnn
    split at h
    · cases h; exact snd_plain (se_c pe_int fun _ _ => .int _) (by intros; nofun) fun _ _ => rfl
    · cases h; exact snd_plain (se_c pe_bl fun _ _ => .bl _) (by intros; nofun) fun _ _ => rfl
    · cases h; exact snd_plain (se_c pe_non fun _ _ => .non) (by intros; nofun) fun _ _ => rfl
    · cases h; exact snd_plain (se_c pe_str fun _ _ => .str _) (by intros; nofun) fun _ _ => rfl
    · -- a name
      rename_i x pos
      split at h
      · cases h
      · rename_i hd
        have hd := dbg_ne (Bool.eq_false_iff.mpr hd)
        split at h
        · cases q : slot p.N x with
          | none => rw [q] at h; cases h
          | some i =>
            rw [q] at h
            cases h
            exact snd_plain (se_var (by rw [s.N]; exact slot_at q) (s.vis (by assumption)) hd.1 hd.2) (by intros; nofun) fun _ _ => rfl
        · split at h
          · cases h
            rename_i hg
            obtain ⟨hg, _⟩ := and_b hg
            refine snd_plain ?_ (by intros; nofun) fun _ _ => rfl
            intro σ H mσ mh ρ R S mv mh' e Q P
            have e0 := e
            simp only [evE] at e
            cases z : M.gl x with
            | none => rw [z] at e; cases e
            | some v =>
              obtain ⟨u, w, h1, h2, h3⟩ := c.gl x v z
              exact se_glb (s.gl hg) h1 h2 hd.1 (fun v' z' ρ H => by rw [z] at z'; cases z'; exact h3 ρ H) σ H mσ mh ρ R S mv mh' e0 Q P
          · cases h
    · split at h
      · cases h; exact snd_plain (se_bin (ih _ _ (by assumption)) (ih _ _ (by assumption))) (by intros; nofun) fun _ _ => rfl
      · cases h
    · rename_i a pos
      cases q : cvE p sc n a with
      | none => rw [q] at h; cases h
      | some ma => rw [q] at h; cases h; exact snd_plain (se_neg (ih _ _ q)) (by intros; nofun) fun _ _ => rfl
    · rename_i a pos
      split at h
      · cases q : cvE p sc n a with
        | none => rw [q] at h; cases h
        | some ma => rw [q] at h; cases h; exact ⟨se_not (ih _ _ q), fun _ => st_not (iT _ _ q (by assumption)), fun _ _ _ q => nomatch q⟩
      · cases h
    · split at h
      · cases h
      · rename_i hb
        split at h
        · cases h
          exact ⟨se_cmp (by omega) (Bool.eq_false_iff.mpr hb) (ih _ _ (by assumption)) (ih _ _ (by assumption)), fun _ => st_cmp (by omega) (Bool.eq_false_iff.mpr hb) (ih _ _ (by assumption)) (ih _ _ (by assumption)), fun _ _ _ q => nomatch q⟩
        · cases h
    · split at h
      · cases h
      · rename_i hb
        split at h
        · cases h
          exact ⟨se_chain (by omega) (Bool.eq_false_iff.mpr hb) (ih _ _ (by assumption)) (ih _ _ (by assumption)) (ih _ _ (by assumption)),
            fun _ => st_chain (by omega) (Bool.eq_false_iff.mpr hb) (ih _ _ (by assumption)) (ih _ _ (by assumption)) (ih _ _ (by assumption)), fun _ _ _ q => nomatch q⟩
        · cases h
    · split at h
      · cases h
      · rename_i hb
        split at h
        · split at h
          · cases h
            exact ⟨se_chain3 (by omega) (Bool.eq_false_iff.mpr hb) (by assumption) (ih _ _ (by assumption)) (ih _ _ (by assumption)) (ih _ _ (by assumption)) (ih _ _ (by assumption)),
              fun _ => st_chain3 (by omega) (Bool.eq_false_iff.mpr hb) (by assumption) (ih _ _ (by assumption)) (ih _ _ (by assumption)) (ih _ _ (by assumption)) (ih _ _ (by assumption)), fun _ _ _ q => nomatch q⟩
          · cases h
        · cases h
    · split at h
      · exact ⟨se_one (ih _ _ h), fun _ => sw_st (sw_one (iT _ _ h (by assumption))), fun _ _ _ _ => sw_one (iT _ _ h (by assumption))⟩
      · cases h
    · split at h
      · split at h
        · cases h
          rename_i a b r pos hni _ _ ma mb h1 h2
          have hb := cvE_ok n c s _ _ h2
          have w := sw_and (iT _ _ h1 hni) (hb.2.2 _ _ _ rfl)
          exact ⟨se_and (ih _ _ h1) hb.1, fun _ => sw_st w, fun _ _ _ _ => w⟩
        · cases h
      · cases h
    · split at h
      · split at h
        · cases h
          rename_i a b r pos hni _ _ ma mb h1 h2
          have hb := cvE_ok n c s _ _ h2
          have w := sw_or (iT _ _ h1 hni) (hb.2.2 _ _ _ rfl)
          exact ⟨se_or (ih _ _ h1) hb.1, fun _ => sw_st w, fun _ _ _ _ => w⟩
        · cases h
      · cases h
    · split at h
      · split at h
        · cases h
          exact ⟨se_ife (iT _ _ (by assumption) (by assumption)) (ih _ _ (by assumption)) (ih _ _ (by assumption)), fun q => by simp [noIf] at q, fun _ _ _ q => nomatch q⟩
        · cases h
      · cases h
    · split at h
      · split at h
        · cases h
          exact snd_plain (se_tup (Nat.le_trans (by assumption) (by decide)) (cvA_ok n c s _ _ (by assumption))) (by intros; nofun) fun _ _ => rfl
        · cases h
      · cases h
    · split at h
      · split at h
        · cases h
          exact snd_plain (se_lst (Nat.le_trans (by assumption) (by decide)) (cvA_ok n c s _ _ (by assumption))) (by intros; nofun) fun _ _ => rfl
        · cases h
      · cases h
    · rename_i a _ _
      cases q : cvE p sc n a with
      | none => rw [q] at h; cases h
      | some ma => rw [q] at h; cases h; exact snd_plain (se_sl (ih _ _ q)) (by intros; nofun) fun _ _ => rfl
    · rename_i a _ _ _ _ _
      cases q : cvE p sc n a with
      | none => rw [q] at h; cases h
      | some ma => rw [q] at h; cases h; exact snd_plain (se_rev (ih _ _ q)) (by intros; nofun) fun _ _ => rfl
    · split at h
      · cases h; exact snd_plain (se_slL (ih _ _ (by assumption)) (ih _ _ (by assumption))) (by intros; nofun) fun _ _ => rfl
      · cases h
    · split at h
      · cases h; exact snd_plain (se_slH (ih _ _ (by assumption)) (ih _ _ (by assumption))) (by intros; nofun) fun _ _ => rfl
      · cases h
    · split at h
      · cases h; exact snd_plain (se_slB (ih _ _ (by assumption)) (ih _ _ (by assumption)) (ih _ _ (by assumption))) (by intros; nofun) fun _ _ => rfl
      · cases h
    · split at h
      · rename_i hp
        split at h
        · cases h
          exact snd_plain (se_ix (by omega) (plain_ix hp) (plain_ix hp) (ih _ _ (by assumption)) (ih _ _ (by assumption))) (by intros; nofun) fun _ _ => rfl
        · cases h
      · cases h
    · split at h
      · rename_i ks0 vs pos _ ks hks
        split at h
        · rename_i hq
          obtain ⟨h1, h2⟩ := and_b hq
          cases q : cvD p sc n ks vs with
          | none => rw [q] at h; cases h
          | some ms =>
            rw [q] at h
            cases h
            rw [optAll_map hks]
            exact snd_plain (se_dsp (cvD_ok n c s _ _ _ q) (by simpa using h2)) (by intros; nofun) fun _ _ => rfl
        · cases h
      · cases h
    · split at h
      · cases h
        rename_i hq
        obtain ⟨hq, hcm⟩ := and_b hq
        obtain ⟨hq, h3⟩ := and_b hq
        obtain ⟨h1, h2⟩ := and_b hq
        have hd := dbg_ne (by simpa using h3)
        exact snd_plain (se_call0 c hcm (by simpa using h1) (s.gl h2) hd.1) (by intros; nofun) fun _ _ => rfl
      · cases h
    · -- a call by name
      rename_i f pf a es pos
      split at h
      · rename_i hq
        obtain ⟨hq, hcm⟩ := and_b hq
        obtain ⟨hq, h3⟩ := and_b hq
        obtain ⟨h1, h2⟩ := and_b hq
        have hd := dbg_ne (by simpa using h3)
        cases q : cvA p sc n (a :: es) with
        | none => rw [q] at h; cases h
        | some mes =>
          rw [q] at h
          cases h
          have st := cvA_star q
          simp only [List.all_cons, Bool.and_eq_true] at st
          exact snd_plain (se_call c hcm (by simpa using h1) (s.gl h2) hd.1 (star_ok st.1) (back_ok st.2) (cvA_ok n c s _ _ q)) (by intros; nofun) fun _ _ => rfl
      · split at h
        · rename_i hf
          subst hf
          split at h
          · split at h
            · rename_i t pt hq
              obtain ⟨hq, h5⟩ := and_b hq
              obtain ⟨hq, h4⟩ := and_b hq
              obtain ⟨hq, h3⟩ := and_b hq
              obtain ⟨h1, h2⟩ := and_b hq
              split at h
              · cases h
                rename_i ty ma ht hma
                have := tyOf_nm ht
                subst this
                exact snd_plain (se_isi (s.gl h2) (c.blt _ (by simpa using h1)) (s.gl h4) (c.blt _ (by simpa using h3)) (star_ok h5) (ih _ _ hma)) (by intros; nofun) fun _ _ => rfl
              · cases h
            · cases h
          · cases h
        · split at h
          · rename_i r hr
            subst h
            exact rngOf_ok n c s _ _ _ _ hr
          · split at h
            · rename_i b hb
              split at h
              · rename_i hq
                obtain ⟨hq, hcm⟩ := and_b hq
                obtain ⟨h1, h2⟩ := and_b hq
                have := biOf_nm hb
                subst this
                cases q : cvA p sc n (a :: es) with
                | none => rw [q] at h; cases h
                | some mes =>
                  rw [q] at h
                  cases h
                  have st := cvA_star q
                  simp only [List.all_cons, Bool.and_eq_true] at st
                  exact snd_plain (se_blt (fun hb => c.calm (by rcases (Bool.or_eq_true _ _).mp hcm with z | z; exact z; exact absurd (by simpa using z) hb)) c.gd (by omega) (s.gl h2) (c.blt _ (by simpa using h1)) (star_ok st.1) (back_ok st.2) (cvA_ok n c s _ _ q)) (by intros; nofun) fun _ _ => rfl
              · cases h
            · cases h
    · split at h
      · rename_i hq
        obtain ⟨h1, h2⟩ := and_b hq
        split at h
        · cases h
          rename_i m mo hm hmo
          have := meOf_nm hm
          subst this
          exact snd_plain (se_meth0 c (attr_ok h1) h2 (ih _ _ hmo)) (by intros; nofun) fun _ _ => rfl
        · cases h
      · cases h
    · -- o.m(a, ..)
      rename_i o m apos a es cpos
      split at h
      · rename_i hq
        obtain ⟨hq, h3⟩ := and_b hq
        obtain ⟨h1, h2⟩ := and_b hq
        split at h
        · rename_i m2 mo mas hm hmo hmas
          split at h
          · cases h
          · rename_i hlen
            cases h
            have := meOf_nm hm
            subst this
            have st := cvA_star hmas
            have st2 := st
            simp only [List.all_cons, Bool.and_eq_true] at st2
            refine snd_plain (se_meth c ⟨attr_ok h1, few_ok st (by simp at h3 ⊢; omega), h2⟩ (ih _ _ hmo) (star_ok st2.1) (back_ok st2.2) (cvA_ok n c s _ _ hmas) fun hg => ?_) (by intros; nofun) fun _ _ => rfl
            subst hg
            cases n with
            | zero => simp [cvA] at hmas
            | succ n =>
              have bk : ∀ {e : Expr} {es : List Expr}, noStar e = true → backTo cpos (starEach (e :: es) X.env) = (false, eval e X.env) :: backTo cpos (starEach es X.env) := fun h => by rw [star_ok h]; rfl
              have ih2 := fun e me h => (cvE_ok n c s e me h).1
              simp only [cvA] at hmas
              split at hmas
              · split at hmas
                · cases hmas
                  rename_i ma mr ha hr
                  cases n with
                  | zero => simp [cvA] at hr
                  | succ n =>
                    cases es with
                    | nil =>
                      simp only [cvA] at hr
                      cases hr
                      exact .inl ⟨ma, rfl, rfl, ih2 _ _ ha, bk st2.1⟩
                    | cons b es =>
                      simp only [cvA] at hr
                      split at hr
                      · split at hr
                        · cases hr
                          rename_i mb mr2 hb hr2
                          have h0 : mr2 = [] := by
                            simp at hlen
                            cases mr2 with
                            | nil => rfl
                            | cons _ _ => simp at hlen
                          subst h0
                          have h00 : es = [] := by
                            cases n with
                            | zero => simp [cvA] at hr2
                            | succ n =>
                              cases es with
                              | nil => rfl
                              | cons _ _ =>
                                simp only [cvA] at hr2
                                split at hr2
                                · split at hr2 <;> cases hr2
                                · cases hr2
                          subst h00
                          exact .inr ⟨b, ma, mb, rfl, rfl, ih2 _ _ ha, (cvE_ok n c s _ _ hb).1, by rw [bk st2.1, bk (by assumption)]; rfl⟩
                        · cases hr
                      · cases hr
                · cases hmas
              · cases hmas
        · cases h
      · cases h
    · -- a comprehension
      split at h
      · rename_i hq
        obtain ⟨hq, hcm⟩ := and_b hq
        obtain ⟨h1, h2⟩ := and_b hq
        split at h
        · split at h
          · cases h
            rename_i elt tg iter ifs scope pos _ _ _ _ _ ik ma mb mt mifs melt hi ht hc he hsl
            have ok : BlkOk X.N X.env.scope scope (ownOf p.N scope) := by
              rw [s.N, s.sc]
              exact blkOk_by h2
            refine snd_plain (se_lc (c.calm hcm) (c.nox hcm) c.nd ok (cvI_ok n c s _ _ _ _ _ hi) (fun i hi => ?_) (fun _ _ _ _ _ => cvT_ok (s.blk ok) c.calm c.ek c.nd ht) (fun st H C cl fp => cvC_ok n (c.blk _ _ _ _ _) (s.blk ok) _ _ hc)
              (fun st H C cl fp => (cvE_ok n (c.blk _ _ _ _ _) (s.blk ok) _ _ he).1) (folded_ok h1)) (by intros; nofun) fun _ _ => rfl
            have := List.all_eq_true.mp hsl i hi
            simpa using this
          · cases h
        · cases h
      · cases h
    · cases h
theorem cvD_ok : ∀ (n : Nat) {X : Cx} {sc : Scope} {fn : Str → Bool} (c : EC X M p k) (s : Stat X sc fn p) (ks vs : List Expr) (ms : List ME), cvD p sc n ks vs = some ms → SP2 X M ks vs ms
  | 0, _, _, _, _, _, _, _, _, h => by simp [cvD] at h
  | n + 1, X, sc, fn, c, s, [], [], _, h => by simp only [cvD] at h; cases h; exact .nil
  | n + 1, X, sc, fn, c, s, [], _ :: _, _, h => by simp [cvD] at h
  | n + 1, X, sc, fn, c, s, _ :: _, [], _, h => by simp [cvD] at h
  | n + 1, X, sc, fn, c, s, k :: ks, v :: vs, _, h => by
    simp only [cvD] at h
    split at h
    · cases h
      exact .cons (cvE_ok n c s _ _ (by assumption)).1 (cvE_ok n c s _ _ (by assumption)).1 (cvD_ok n c s _ _ _ (by assumption))
    · cases h
theorem rngOf_ok : ∀ (n : Nat) {X : Cx} {sc : Scope} {fn : Str → Bool} (c : EC X M p k) (s : Stat X sc fn p) (f : Str) (a : Expr) (es : List Expr) (me : ME) {pf pos : Pos}, rngOf p sc n f a es = some (some me) → Snds X M (.Call (.Name f pf) (a :: es) [] pos) me
  | 0, _, _, _, _, _, _, _, _, _, _, _, h => by simp [rngOf] at h
  | n + 1, X, sc, fn, c, s, f, a, es, me, pf, pos, h => by
    have ih := fun e me h => (cvE_ok n c s e me h).1
    unfold rngOf at h
    split at h
    · split at h
      · rename_i r pr x p2 hq
        obtain ⟨hq, hf⟩ := and_b hq
        obtain ⟨hr, _⟩ := and_b hq
        have hr : r = "range" := by simpa using hr
        subst hr
        rw [Option.some.injEq] at h
        split at h
        · rename_i hq2
          obtain ⟨hq2, hcm⟩ := and_b hq2
          obtain ⟨hq2, h5⟩ := and_b hq2
          obtain ⟨hq2, h4⟩ := and_b hq2
          obtain ⟨hq2, h3⟩ := and_b hq2
          obtain ⟨h1, h2⟩ := and_b hq2
          cases q : cvE p sc n x with
          | none => rw [q] at h; cases h
          | some mx =>
            rw [q] at h
            obtain ⟨te, g1, g2⟩ := rg1_ok (p2 := p2) (p := pr) (ih _ _ q) (s.gl h2) (c.blt _ (by simpa using h1)) (star_ok h5)
            simp only [Option.map_some, Option.some.injEq] at h
            rw [Bool.or_eq_true] at hf
            by_cases hl : f = "list"
            · subst hl
              rw [if_pos rfl] at h
              subst h
              exact snd_plain (se_rngL (c.calm hcm) (s.gl h4) (c.blt _ (by simpa using h3)) g1 (star_ok rfl) g2) (by intros; nofun) fun _ _ => rfl
            · rw [if_neg hl] at h
              subst h
              have hf : f = "tuple" := by
                rcases hf with hf | hf
                · exact absurd (by simpa using hf) hl
                · simpa using hf
              subst hf
              exact snd_plain (se_rngT (c.calm hcm) (s.gl h4) (c.blt _ (by simpa using h3)) g1 (star_ok rfl) g2) (by intros; nofun) fun _ _ => rfl
        · cases h
      · cases h
    · split at h
      · rename_i r pr x y p2 hq
        obtain ⟨hq, hf⟩ := and_b hq
        obtain ⟨hr, _⟩ := and_b hq
        have hr : r = "range" := by simpa using hr
        subst hr
        rw [Option.some.injEq] at h
        split at h
        · rename_i hq2
          obtain ⟨hq2, hcm⟩ := and_b hq2
          obtain ⟨hq2, h6⟩ := and_b hq2
          obtain ⟨hq2, h5⟩ := and_b hq2
          obtain ⟨hq2, h4⟩ := and_b hq2
          obtain ⟨hq2, h3⟩ := and_b hq2
          obtain ⟨h1, h2⟩ := and_b hq2
          split at h
          · rename_i mx my qx qy
            obtain ⟨te, g1, g2⟩ := rg2_ok (p2 := p2) (p := pr) (ih _ _ qx) (ih _ _ qy) (s.gl h2) (c.blt _ (by simpa using h1)) (star_ok h5) (star_ok h6)
            rw [Option.some.injEq] at h
            rw [Bool.or_eq_true] at hf
            by_cases hl : f = "list"
            · subst hl
              rw [if_pos rfl] at h
              subst h
              exact snd_plain (se_rngL (c.calm hcm) (s.gl h4) (c.blt _ (by simpa using h3)) g1 (star_ok rfl) g2) (by intros; nofun) fun _ _ => rfl
            · rw [if_neg hl] at h
              subst h
              have hf : f = "tuple" := by
                rcases hf with hf | hf
                · exact absurd (by simpa using hf) hl
                · simpa using hf
              subst hf
              exact snd_plain (se_rngT (c.calm hcm) (s.gl h4) (c.blt _ (by simpa using h3)) g1 (star_ok rfl) g2) (by intros; nofun) fun _ _ => rfl
          · cases h
        · cases h
      · cases h
    · cases h
theorem cvA_ok : ∀ (n : Nat) {X : Cx} {sc : Scope} {fn : Str → Bool} (c : EC X M p k) (s : Stat X sc fn p) (es : List Expr) (mes : List ME), cvA p sc n es = some mes → SA X M es mes
  | 0, _, _, _, _, _, _, _, h => by simp [cvA] at h
  | n + 1, X, sc, fn, c, s, [], _, h => by simp only [cvA] at h; cases h; exact sa_nil
  | n + 1, X, sc, fn, c, s, e :: es, _, h => by
    simp only [cvA] at h
    split at h
    · split at h
      · cases h
        exact sa_cons (star_ok (by assumption)) (cvE_ok n c s _ _ (by assumption)).1 (cvA_ok n c s _ _ (by assumption))
      · cases h
    · cases h
theorem cvC_ok : ∀ (n : Nat) {X : Cx} {sc : Scope} {fn : Str → Bool} (c : EC X M p k) (s : Stat X sc fn p) (es : List Expr) (mes : List ME), cvC p sc n es = some mes → STs X M es mes
  | 0, _, _, _, _, _, _, _, h => by simp [cvC] at h
  | n + 1, X, sc, fn, c, s, [], _, h => by simp only [cvC] at h; cases h; exact .inl ⟨rfl, rfl⟩
  | n + 1, X, sc, fn, c, s, [e], _, h => by
    simp only [cvC] at h
    split at h
    · cases q : cvE p sc n e with
      | none => rw [q] at h; cases h
      | some me => rw [q] at h; cases h; exact .inr ⟨e, me, rfl, rfl, (cvE_ok n c s _ _ q).2.1 (by assumption)⟩
    · cases h
  | n + 1, _, _, _, _, _, _ :: _ :: _, _, h => by simp [cvC] at h
theorem cvI_ok : ∀ (n : Nat) {X : Cx} {sc : Scope} {fn : Str → Bool} (c : EC X M p k) (s : Stat X sc fn p) (tg e : Expr) (ik : IK) (ma mb : ME), cvI p sc n tg e = some (ik, ma, mb) → SI X M tg e ik ma mb
  | 0, _, _, _, _, _, _, _, _, _, _, h => by simp [cvI] at h
  | n + 1, X, sc, fn, c, s, tg, e, ik, ma, mb, h => by
    have ih := fun e me h => (cvE_ok n c s e me h).1
    have fin : ∀ e, (cvE p sc n e).map (fun a => (IK.val, a, ME.c .non)) = some (ik, ma, mb) → SI X M tg e ik ma mb := fun e h => by
      cases q : cvE p sc n e with
      | none => rw [q] at h; cases h
      | some me => rw [q] at h; cases h; exact si_val (ih _ _ q)
    unfold cvI at h
    split at h
    · split at h
      · rename_i f pf a pos hf
        obtain ⟨hf, _⟩ := and_b hf
        have hf : f = "range" := by simpa using hf
        subst hf
        split at h
        · rename_i hq
          obtain ⟨hq, h3⟩ := and_b hq
          obtain ⟨h1, h2⟩ := and_b hq
          cases q : cvE p sc n a with
          | none => rw [q] at h; cases h
          | some me => rw [q] at h; cases h; exact si_rng1 (s.gl h2) (c.blt _ (by simpa using h1)) (star_ok h3) (ih _ _ q)
        · cases h
      · split at h
        · rename_i f pf a pos hn hf
          obtain ⟨hf, _⟩ := and_b hf
          have hf : f = "enumerate" := by simpa using hf
          subst hf
          split at h
          · split at h
            · rename_i hq
              obtain ⟨hq, h3⟩ := and_b hq
              obtain ⟨h1, h2⟩ := and_b hq
              cases q : cvE p sc n a with
              | none => rw [q] at h; cases h
              | some me => rw [q] at h; cases h; exact si_enum (s.gl h2) (c.blt _ (by simpa using h1)) (star_ok h3) (ih _ _ q)
            · cases h
          · cases h
        · exact fin _ h
    · split at h
      · rename_i f pf a b pos hf
        obtain ⟨hf, _⟩ := and_b hf
        have hf : f = "range" := by simpa using hf
        subst hf
        split at h
        · rename_i hq
          obtain ⟨hq, h4⟩ := and_b hq
          obtain ⟨hq, h3⟩ := and_b hq
          obtain ⟨h1, h2⟩ := and_b hq
          split at h
          · cases h
            exact si_rng2 (s.gl h2) (c.blt _ (by simpa using h1)) (star_ok h3) (star_ok h4) (ih _ _ (by assumption)) (ih _ _ (by assumption))
          · cases h
        · cases h
      · exact fin _ h
    · exact fin _ h
end
end
end Mn

set_option maxHeartbeats 4000000
/-! Conv2: statements, defs, the whole program. -/
namespace Mn
open PySem PySem.Spec PyProof.Rows L2

def noComp : Expr → Bool
  | .ListComp .. => false | .SetComp .. => false | .DictComp .. => false
  | _ => true
def isTup : Expr → Bool
  | .Tuple .. => true | .List .. => true
  | _ => false
def swapB (sc : Scope) (y : Str) (py : Pos) (scope : Scope) (lpos : Pos) : Bool :=
  sc.names.lookup y == some .local && py.line == lpos.line && !(scope.names.any fun (n, k) => n == y && (k == .local || k == .cell))
def starB : Expr → Bool
  | .Starred .. => true
  | _ => false
/-- a call of a def that may raise -/
def rxOf (p : CP) (sc : Scope) (n : Nat) : Expr → Option (Option (Str × List ME))
  | .Call (.Name f _) (a :: es) [] _ => if p.RX.contains f && (p.cm && (glbb sc f && !dbg f)) then some ((cvA p sc n (a :: es)).map fun q => (f, q)) else none
  | _ => none
/-- a try's one statement -/
def bodyOf (p : CP) (fn : Str → Bool) (sc : Scope) (n : Nat) : Stmt → Option (Wr × MT × Str × List ME)
  | .Assign [.Name y py] (.Call f as [] pos) _ => match rxOf p sc n (.Call f as [] pos), cvT p fn sc (.Name y py) with
    | some (some q), some t => some (.val, t, q.1, q.2)
    | _, _ => none
  | .Assign [.Name y py] (.Compare (.Call f as [] pos) [.Is] [.Constant (.bool true) _ _] _) _ => match rxOf p sc n (.Call f as [] pos), cvT p fn sc (.Name y py) with
    | some (some q), some t => some (.isT, t, q.1, q.2)
    | _, _ => none
  | .Expr (.Call f as [] pos) _ => match rxOf p sc n (.Call f as [] pos) with
    | some (some q) => some (.drop, .nm 0, q.1, q.2)
    | _ => none
  | .If (.Compare (.Call f as [] pos) [.Is] [.Constant (.bool true) _ _] _) [.Assign [.Name y py] (.Constant (.bool true) _ _) _] [] _ => match rxOf p sc n (.Call f as [] pos), cvT p fn sc (.Name y py) with
    | some (some q), some t => some (.ifT, t, q.1, q.2)
    | _, _ => none
  | _ => none
mutual
/-- what may raise -/
def cvSx (p : CP) (fn : Str → Bool) (sc : Scope) : Nat → Stmt → Option (Option MS)
  | 0, _ => none
  | n + 1, st => match st with
    | .Return (some e) _ => if p.rx then some (match rxOf p sc n e with
      | some r => r.map fun q => .retX q.1 q.2
      | none => (cvE p sc n e).map .retC) else none
    | .Expr e _ => if p.rx then (rxOf p sc n e).map fun r => r.map fun q => .exprX q.1 q.2 else none
    | .Assign [tg] e _ => if p.rx then (rxOf p sc n e).map fun r => match r, cvT p fn sc tg with
      | some q, some t => some (.asgX t q.1 q.2)
      | _, _ => none else none
    | .Raise (some (.Call (.Name c _) (a :: es) [] _)) none _ => some (if p.rx && p.cm && clsb p sc c then (cvA p sc n (a :: es)).map (.raise c) else none)
    | .Try [s0] [.ExceptHandler (some (.Name x _)) nm (b0 :: suite) _] [] [] _ => some (if !p.rx && p.cm && clsb p sc x then (match bodyOf p fn sc n s0, (nm.bind fun y => slot p.N y) with
      | some (w, t, f, es), ki => match nm with
        | none => (cvSs { p with cm := false, ek := none } fn sc n (b0 :: suite)).map fun hd => .tryC w t f es x none hd
        | some y => match ki with
          | some i => if sc.names.lookup y == some .local then (cvSs { p with cm := false, ek := some i } fn sc n (b0 :: suite)).map fun hd => .tryC w t f es x (some i) hd else none
          | none => none
      | _, _ => none) else none)
    | _ => none
def cvS (p : CP) (fn : Str → Bool) (sc : Scope) : Nat → Stmt → Option MS
  | 0, _ => none
  | n + 1, st => match cvSx p fn sc n st with
  | some r => r
  | none => match st with
    | .Expr (.Constant (.str _) _ _) _ => some .pass
    | .Expr e _ => if noComp e then (cvE p sc n e).map .expr else none
    | .Assign [.Subscript o i _] e _ => if noComp e && plainE i then match cvE p sc n o, cvE p sc n i, cvE p sc n e with
      | some o, some i, some e => some (.asgSub o i e)
      | _, _, _ => none else none
    | .Assign [.Name y py] (.ListComp elt [⟨tg, iter, ifs, 0⟩] scope lpos) pos => match slot p.N y, cvE p sc n (.ListComp elt [⟨tg, iter, ifs, 0⟩] scope lpos) with
      | some j, some e => if tgtb fn sc y && !decide (p.ek = some j) then some (.asg (.nm j) e) else none
      | _, _ => none
    | .Assign [.Tuple [.Name x px, .Name y py] k1 p1] (.Tuple [a, b] k2 p2) _ =>
      if sc.names.lookup x == some .local && sc.names.lookup y == some .local && py.line == px.line && !(x == y) && noStar a && noStar b && !([a, b].all (foldedForSure 8)) && !([a, b].all (constantsAlone 8)) && p.cm then
      match slot p.N x, slot p.N y, cvE p sc n a, cvE p sc n b with
      | some i, some j, some a, some b => if i = j then none else some (.asg (.tp [.nm i, .nm j]) (.tup [a, b]))
      | _, _, _, _ => none else
      if !(sc.names.lookup x == some .local && sc.names.lookup y == some .local) then match cvT p fn sc (.Tuple [.Name x px, .Name y py] k1 p1), cvE p sc n (.Tuple [a, b] k2 p2) with
      | some t, some e => some (.asg t e)
      | _, _ => none else none
    | .Assign [tg] e _ => if noComp e && !(isTup tg && isTup e) then match cvT p fn sc tg, cvE p sc n e with
      | some t, some e => some (.asg t e)
      | _, _ => none else none
    | .Return (some e) _ => if p.rx then none else (cvE p sc n e).map .ret
    | .Return none _ => some .retN
    | .If c a b _ => if noIf c then match cvE p sc n c, cvSs p fn sc n a, cvSs p fn sc n b with
      | some c, some a, some b => some (.ite c a b)
      | _, _, _ => none else none
    | .For tg iter body [] _ => if plainI iter && p.cm then match cvI p sc n tg iter, cvT p fn sc tg, cvSs p fn sc n body with
      | some (ik, a, b), some t, some body => some (.for_ t ik a b body)
      | _, _, _ => none else none
    | .While c body [] _ => if noIf c then match cvE p sc n c, cvSs p fn sc n body with
      | some c, some body => some (.whl c body)
      | _, _ => none else none
    | .Pass _ => some .pass
    | .Break _ => some .brk
    | .Continue _ => some .cont
    | _ => none
def cvSs (p : CP) (fn : Str → Bool) (sc : Scope) : Nat → List Stmt → Option (List MS)
  | 0, _ => none
  | _ + 1, [] => some []
  | n + 1, s :: ss => match cvS p fn sc n s, cvSs p fn sc n ss with
    | some a, some b => some (a :: b)
    | _, _ => none
end
section
variable {k : Nat}
theorem swaps_no {X : Cx} {e : Expr} {t : Option Expr} {l : Nat} (h : noComp e = true) : swapsWith e t l X.env = pure false := by
  cases e <;> first | rfl | (simp [noComp] at h)
theorem sole_no {X : Cx} {e t : Expr} {l : Nat} (h : noComp e = true) : swapsWithSole [t] e l X.env = pure false := by
  have : swapsWithSole [t] e l X.env = swapsWith e (some t) l X.env := by rfl
  rw [this, swaps_no h]
theorem asg_sub {X : Cx} {o i : Expr} {p2 : Pos} (h : plainE i = true) (v : Value) : assign (.Subscript o i p2) X.env v = (do
    let ov ← holding [v] (eval o X.env)
    let iv ← holding [v, ov] (eval i X.env)
    standAt p2
    holding [v, ov, iv] (setItem ov iv v)
    release [v, ov, iv] []) := by
  cases i <;> first | rfl | (simp [plainE] at h)
theorem stores_no {X : Cx} {tg e : Expr} (h : (isTup tg && isTup e) = false) : swappedStores [tg] e X.env = pure none := by
  cases tg <;> first | rfl | (cases e <;> first | rfl | (simp [isTup] at h))
theorem stores_pair {p : CP} {X : Cx} {sc : Scope} {fn : Str → Bool} (s : Stat X sc fn p) {x y : Str} {px py pt pt2 : Pos} {kt k2 : Nat} {a b : Expr} (hx : sc.names.lookup x = some .local) (hy : sc.names.lookup y = some .local) (hl : (py.line == px.line) = true) (hne : (x == y) = false)
    (ha : noStar a = true) (hb : noStar b = true) (h1 : [a, b].all (foldedForSure 8) = false) (h2 : [a, b].all (constantsAlone 8) = false) :
    swappedStores [.Tuple [.Name x px, .Name y py] kt pt] (.Tuple [a, b] k2 pt2) X.env = pure (some [x, y]) := by
  have kx : X.env.kindOf x = some .local := by show X.env.scope.names.lookup x = _; rw [s.sc]; exact hx
  have ky : X.env.kindOf y = some .local := by show X.env.scope.names.lookup y = _; rw [s.sc]; exact hy
  have hbk : X.env.blockKind = .function := by unfold Env.blockKind; rw [s.kind]; rfl
  have hd : [x, y].eraseDups = [x, y] := by
    have : (y == x) = false := by rw [Bool.eq_false_iff] at hne ⊢; intro z; exact hne (by simpa using (by simpa using z : y = x).symm)
    simp [List.eraseDups_cons, this]
  unfold swappedStores
  have e1 : ((some NameKind.local : Option NameKind) == some NameKind.local) = true := rfl
  have e2 : (ScopeKind.function != ScopeKind.function) = false := rfl
  simp only [hbk, h1, h2, List.length_cons, List.length_nil, Expr.pos, List.head?_cons, Option.map_some, Option.getD_some, List.filterMap_cons, List.filterMap_nil, kx, ky, hl, e1, e2, beq_self_eq_true, Bool.and_self, if_true, hd, List.any_cons, List.any_nil]
  split
  · rename_i z
    exact absurd z (by decide)
  · split
    · exact absurd ha (by intro z; cases z)
    · split
      · exact absurd hb (by intro z; cases z)
      · rfl
theorem stores_cell {p : CP} {X : Cx} {sc : Scope} {fn : Str → Bool} (s : Stat X sc fn p) {x y : Str} {px py pt pt2 : Pos} {kt k2 : Nat} {a b : Expr} (h : (sc.names.lookup x == some .local && sc.names.lookup y == some .local) = false) :
    swappedStores [.Tuple [.Name x px, .Name y py] kt pt] (.Tuple [a, b] k2 pt2) X.env = pure none := by
  have kx : X.env.kindOf x = sc.names.lookup x := by show X.env.scope.names.lookup x = _; rw [s.sc]
  have ky : X.env.kindOf y = sc.names.lookup y := by show X.env.scope.names.lookup y = _; rw [s.sc]
  have hbk : X.env.blockKind = .function := by unfold Env.blockKind; rw [s.kind]; rfl
  unfold swappedStores
  simp only [hbk, List.length_cons, List.length_nil, Expr.pos, List.head?_cons, Option.map_some, Option.getD_some, List.filterMap_cons, List.filterMap_nil, kx, ky]
  split
  · rfl
  · split
    · rfl
    · cases hx : sc.names.lookup x == some .local
      · simp only [Bool.false_and, Bool.false_eq_true, if_false]
        cases sc.names.lookup y == some .local && py.line == px.line <;> simp
      · rw [hx, Bool.true_and] at h
        simp only [h, Bool.false_and, Bool.false_eq_true, if_false]
        cases px.line == px.line <;> simp
/-- a def's own frame -/
structure FunCx (X : Cx) : Prop where
  ps : PassesOwn (model X.prog X.w) X.A X.env X.xe
  st : X.stack = X.env :: X.outer
  fr : X.env.frame = some X.env.locals
theorem cvEx_lc {p : CP} {sc : Scope} {n : Nat} {elt : Expr} {g : List Comprehension} {scope : Scope} {lpos : Pos} : cvEx p sc n (.ListComp elt g scope lpos) = none := by
  cases n <;> simp [cvEx]
theorem rx_is {p : CP} {sc : Scope} {n : Nat} {e : Expr} {f : Str} {mes : List ME} (h : rxOf p sc n e = some (some (f, mes))) :
    ∃ pf a es pos, e = .Call (.Name f pf) (a :: es) [] pos ∧ f ∈ p.RX ∧ p.cm = true ∧ glbb sc f = true ∧ dbg f = false ∧ cvA p sc n (a :: es) = some mes := by
  unfold rxOf at h
  split at h
  · rename_i f0 pf a es pos
    split at h
    · rename_i hq
      obtain ⟨h1, hq⟩ := and_b hq
      obtain ⟨h2, hq⟩ := and_b hq
      obtain ⟨h3, h4⟩ := and_b hq
      rw [Option.some.injEq] at h
      cases q : cvA p sc n (a :: es) with
      | none => rw [q] at h; cases h
      | some r =>
        rw [q] at h
        simp only [Option.map_some, Option.some.injEq, Prod.mk.injEq] at h
        obtain ⟨rfl, rfl⟩ := h
        exact ⟨pf, a, es, pos, rfl, by simpa using h1, h2, h3, by simpa using h4, q⟩
    · cases h
  · cases h
theorem body_ok {p : CP} {M : Cm} {X : Cx} {sc : Scope} {fn : Str → Bool} {n : Nat} {st : Stmt} {w : Wr} {t : MT} {f : Str} {mes : List ME} (c : EC X M p k) (s : Stat X sc fn p) (h : bodyOf p fn sc n st = some (w, t, f, mes)) : BodyX X M st w t f mes := by
  have gl : ∀ {f : Str} {a : Expr} {es : List Expr} {r : List ME}, glbb sc f = true → dbg f = false → cvA p sc n (a :: es) = some r → Gl X f ∧ (f == ("__debug__" : Str)) = false ∧ starEach (a :: es) X.env = (false, eval a X.env) :: starEach es X.env ∧ (∀ pos, (backTo pos (starEach es X.env)).any (·.1) = false) ∧ SA X M (a :: es) r := fun {f a es r} h1 h2 h3 => by
    have st := cvA_star h3
    simp only [List.all_cons, Bool.and_eq_true] at st
    exact ⟨s.gl h1, (dbg_ne h2).1, star_ok st.1, fun pos => back_ok st.2, cvA_ok n c s _ _ h3⟩
  unfold bodyOf at h
  split at h
  · split at h
    · rename_i q t' hr ht
      cases h
      obtain ⟨pf, a, es, pos, e, h1, h2, h3, h4, h5⟩ := rx_is (f := q.1) (mes := q.2) hr
      cases e
      obtain ⟨g1, g2, g3, g4, g5⟩ := gl h3 h4 h5
      exact body_val c h2 h1 g1 g2 g3 (g4 _) g5 (sole_no rfl) (stores_no rfl) rfl (cvT_ok s c.calm c.ek c.nd ht)
    · cases h
  · split at h
    · rename_i q t' hr ht
      cases h
      obtain ⟨pf, a, es, pos, e, h1, h2, h3, h4, h5⟩ := rx_is (f := q.1) (mes := q.2) hr
      cases e
      obtain ⟨g1, g2, g3, g4, g5⟩ := gl h3 h4 h5
      exact body_isT c h2 h1 g1 g2 g3 (g4 _) g5 (sole_no rfl) (stores_no rfl) rfl (cvT_ok s c.calm c.ek c.nd ht)
    · cases h
  · split at h
    · rename_i q hr
      cases h
      obtain ⟨pf, a, es, pos, e, h1, h2, h3, h4, h5⟩ := rx_is (f := q.1) (mes := q.2) hr
      cases e
      obtain ⟨g1, g2, g3, g4, g5⟩ := gl h3 h4 h5
      exact body_drop c h2 h1 g1 g2 g3 (g4 _) g5 (swaps_no rfl)
    · cases h
  · split at h
    · rename_i q t' hr ht
      cases h
      obtain ⟨pf, a, es, pos, e, h1, h2, h3, h4, h5⟩ := rx_is (f := q.1) (mes := q.2) hr
      cases e
      obtain ⟨g1, g2, g3, g4, g5⟩ := gl h3 h4 h5
      exact body_ifT c h2 h1 g1 g2 g3 (g4 _) g5 (sole_no rfl) (stores_no rfl) rfl (cvT_ok s c.calm c.ek c.nd ht)
    · cases h
  · cases h
theorem cls_in {p : CP} {X : Cx} {sc : Scope} {fn : Str → Bool} (s : Stat X sc fn p) {x : Str} (hh : clsb p sc x = true) : x ∈ p.CL ∧ Gl X x ∧ (x == ("__debug__" : Str)) = false := by
  obtain ⟨h1, h2⟩ := and_b hh
  obtain ⟨h2, h3⟩ := and_b h2
  exact ⟨by simpa using h1, s.gl h2, (dbg_ne (by simpa using h3)).1⟩
mutual
theorem cvSx_ok : ∀ (n : Nat) {p : CP} {M : Cm} {X : Cx} {sc : Scope} {fn : Str → Bool} (c : EC X M p k) (s : Stat X sc fn p) (hp : FunCx X) (hk : p.cm = true → 2 ≤ k) (st : Stmt) (ms : MS), cvSx p fn sc n st = some (some ms) → SS X M p.rx st ms
  | 0, _, _, _, _, _, _, _, _, _, _, _, h => by simp [cvSx] at h
  | n + 1, p, M, X, sc, fn, c, s, hp, hk, st, ms, h => by
    have gl : ∀ {f : Str} {a : Expr} {es : List Expr} {r : List ME}, glbb sc f = true → dbg f = false → cvA p sc n (a :: es) = some r → Gl X f ∧ (f == ("__debug__" : Str)) = false ∧ starEach (a :: es) X.env = (false, eval a X.env) :: starEach es X.env ∧ (∀ pos, (backTo pos (starEach es X.env)).any (·.1) = false) ∧ SA X M (a :: es) r := fun {f a es r} h1 h2 h3 => by
      have st := cvA_star h3
      simp only [List.all_cons, Bool.and_eq_true] at st
      exact ⟨s.gl h1, (dbg_ne h2).1, star_ok st.1, fun pos => back_ok st.2, cvA_ok n c s _ _ h3⟩
    unfold cvSx at h
    split at h
    · rename_i e pos
      split at h
      · rename_i hrx
        rw [Option.some.injEq] at h
        split at h
        · rename_i r hr
          cases r with
          | none => cases h
          | some q =>
            cases h
            obtain ⟨pf, a, es, pos, e, h1, h2, h3, h4, h5⟩ := rx_is (f := q.1) (mes := q.2) hr
            cases e
            obtain ⟨g1, g2, g3, g4, g5⟩ := gl h3 h4 h5
            exact ss_retX c h2 hrx h1 g1 g2 g3 (g4 _) g5
        · cases q : cvE p sc n e with
          | none => rw [q] at h; cases h
          | some me => rw [q] at h; cases h; exact ss_retC (cvE_ok n c s _ _ q).1
      · cases h
    · rename_i e pos
      split at h
      · rename_i hrx
        cases hr : rxOf p sc n e with
        | none => rw [hr] at h; cases h
        | some r =>
          rw [hr] at h
          cases r with
          | none => cases h
          | some q =>
            cases h
            obtain ⟨pf, a, es, pos, e, h1, h2, h3, h4, h5⟩ := rx_is (f := q.1) (mes := q.2) hr
            cases e
            obtain ⟨g1, g2, g3, g4, g5⟩ := gl h3 h4 h5
            exact ss_exprX c h2 hrx h1 g1 g2 g3 (g4 _) g5 (swaps_no rfl)
      · cases h
    · rename_i tg e pos
      split at h
      · rename_i hrx
        cases hr : rxOf p sc n e with
        | none => rw [hr] at h; cases h
        | some r =>
          rw [hr] at h
          simp only [Option.map_some, Option.some.injEq] at h
          split at h
          · rename_i q t ht
            cases h
            obtain ⟨pf, a, es, pos, e, h1, h2, h3, h4, h5⟩ := rx_is (f := q.1) (mes := q.2) hr
            cases e
            obtain ⟨g1, g2, g3, g4, g5⟩ := gl h3 h4 h5
            have hns : noStar tg = true := by cases tg <;> first | rfl | (simp [cvT] at ht)
            exact ss_asgX c h2 hrx h1 g1 g2 g3 (g4 _) g5 (sole_no rfl) (stores_no (by cases tg <;> rfl)) (by rw [asg_ok hns]; rfl) (cvT_ok s c.calm c.ek c.nd ht)
          · cases h
      · cases h
    · rename_i cl pc a es p1 p2
      rw [Option.some.injEq] at h
      split at h
      · rename_i hq
        obtain ⟨hq, hc⟩ := and_b hq
        obtain ⟨hrx, hcm⟩ := and_b hq
        obtain ⟨k1, k2, k3⟩ := cls_in s hc
        cases q : cvA p sc n (a :: es) with
        | none => rw [q] at h; cases h
        | some mes =>
          rw [q] at h
          cases h
          have st := cvA_star q
          simp only [List.all_cons, Bool.and_eq_true] at st
          exact ss_raise c hcm (hk hcm) hrx k1 k2 k3 (star_ok st.1) (back_ok st.2) (cvA_ok n c s _ _ q)
      · cases h
    · rename_i s0 x px nm b0 suite pe pos
      rw [Option.some.injEq] at h
      split at h
      · rename_i hq
        obtain ⟨hq, hc⟩ := and_b hq
        obtain ⟨hrx, hcm⟩ := and_b hq
        have hrx : p.rx = false := by simpa using hrx
        obtain ⟨k1, k2, k3⟩ := cls_in s hc
        split at h
        · rename_i ki w t f mes hb
          have sb : ∀ pn xe, EC (X.tr pn xe) M p k → BodyX (X.tr pn xe) M s0 w t f mes := fun pn xe ec => body_ok ec ⟨s.sc, s.kind, s.N, s.fn⟩ hb
          have ssu : ∀ (kk : Option Nat) (hd : List MS), cvSs { p with cm := false, ek := kk } fn sc n (b0 :: suite) = some hd → ∀ a oe pn c' fs, c' ∈ p.CL → EC (X.suite a ((a, oe) :: pn)) (M.with kk c' fs) { p with cm := false, ek := kk } k → SSs (X.suite a ((a, oe) :: pn)) (M.with kk c' fs) false (b0 :: suite) hd := fun kk hd hs a oe pn c' fs _ ec => by
            have := cvSs_ok n (p := { p with cm := false, ek := kk }) ec (sc := sc) (fn := fn) ⟨s.sc, s.kind, s.N, s.fn⟩ ⟨.never, hp.st, hp.fr⟩ (fun z => by cases z) _ _ hs
            rw [hrx] at this
            exact this
          split at h
          · cases q : cvSs { p with cm := false, ek := none } fn sc n (b0 :: suite) with
            | none => rw [q] at h; cases h
            | some hd =>
              rw [q] at h
              cases h
              exact ss_try_only c hcm hrx hp.st hp.fr k1 k2 k3 sb (ssu none hd q)
          · rename_i y
            split at h
            · rename_i i hi
              split at h
              · rename_i hl
                cases q : cvSs { p with cm := false, ek := some i } fn sc n (b0 :: suite) with
                | none => rw [q] at h; cases h
                | some hd =>
                  rw [q] at h
                  cases h
                  refine ss_try_as c hcm hrx hp.st hp.fr (by rw [s.N]; exact slot_at hi) ?_ k1 k2 k3 sb (ssu (some i) hd q)
                  show X.env.scope.names.lookup y = _
                  rw [s.sc]
                  simpa using hl
              · cases h
            · cases h
        · cases h
      · cases h
    · cases h
theorem cvS_ok : ∀ (n : Nat) {p : CP} {M : Cm} {X : Cx} {sc : Scope} {fn : Str → Bool} (c : EC X M p k) (s : Stat X sc fn p) (hp : FunCx X) (hk : p.cm = true → 2 ≤ k) (st : Stmt) (ms : MS), cvS p fn sc n st = some ms → SS X M p.rx st ms
  | 0, _, _, _, _, _, _, _, _, _, _, _, h => by simp [cvS] at h
  | n + 1, p, M, X, sc, fn, c, s, hp, hk, st, ms, h => by
    have ih := fun e me h => (cvE_ok n c s e me h).1
    have iT := fun e me h (q : noIf e = true) => (cvE_ok n c s e me h).2.1 q
    have hu := c.un
    unfold cvS at h
    split at h
    · rename_i r hr
      subst h
      exact cvSx_ok n c s hp hk _ _ hr
    rename_i hnn
    clear hnn
    split at h
    · cases h; exact ss_doc
    · split at h
      · rename_i e pos _ hn
        cases q : cvE p sc n e with
        | none => rw [q] at h; cases h
        | some me => rw [q] at h; cases h; exact ss_expr (swaps_no hn) (ih _ _ q)
      · cases h
    · split at h
      · rename_i hq
        obtain ⟨h1, h2⟩ := and_b hq
        split at h
        · cases h
          exact ss_asgSub (by omega) (sole_no h1) (stores_no rfl) rfl (fun ht => pg_sub pe_tS pe_tS ht (asg_sub h2)) (ih _ _ (by assumption)) (ih _ _ (by assumption)) (ih _ _ (by assumption))
        · cases h
      · cases h
    · -- name = [..]
      rename_i y py elt tg iter ifs scope lpos pos
      split at h
      · rename_i j me hj he
        split at h
        · cases h
          rename_i ht
          obtain ⟨ht, hek⟩ := and_b ht
          have he0 := he
          have hek : ¬ p.ek = some j := by simpa using hek
          have hcv : cvT p fn sc (.Name y py) = some (.nm j) := by simp only [cvT, ht, hj, if_true, Option.bind_some, if_neg hek]
          have hkk : X.env.kindOf y = sc.names.lookup y := by show X.env.scope.names.lookup y = _; rw [s.sc]
          have hsw : swapsWith (.ListComp elt [⟨tg, iter, ifs, 0⟩] scope lpos) (some (.Name y py)) pos.line X.env = pure (swapB sc y py scope lpos) := by
            have hbk : X.env.blockKind = .function := by unfold Env.blockKind; rw [s.kind]; rfl
            unfold swapsWith swapB
            simp only [hbk, hkk, Expr.pos]
            rfl
          cases hB : swapB sc y py scope lpos with
          | false =>
            have z : swapsWithSole [.Name y py] (.ListComp elt [⟨tg, iter, ifs, 0⟩] scope lpos) pos.line X.env = swapsWith (.ListComp elt [⟨tg, iter, ifs, 0⟩] scope lpos) (some (.Name y py)) pos.line X.env := by rfl
            exact ss_asg (by rw [z, hsw, hB]) (stores_no rfl) rfl (ih _ _ he) (cvT_ok s c.calm c.ek c.nd hcv)
          | true =>
            have hl : sc.names.lookup y = some .local := by
              unfold swapB at hB
              simp only [Bool.and_eq_true] at hB
              simpa using hB.1.1
            cases n with
            | zero => simp [cvE] at he
            | succ n =>
              simp only [cvE] at he
              rw [show cvEx p sc n (.ListComp elt [⟨tg, iter, ifs, 0⟩] scope lpos) = none from cvEx_lc] at he
              simp only at he
              split at he
              · rename_i hq
                obtain ⟨hq, hcm⟩ := and_b hq
                obtain ⟨h1, h2⟩ := and_b hq
                split at he
                · split at he
                  · cases he
                    rename_i _ _ _ _ _ ik ma mb mt mifs melt hi ht2 hc he2 hsl
                    have ok : BlkOk X.N X.env.scope scope (ownOf p.N scope) := by
                      rw [s.N, s.sc]
                      exact blkOk_by h2
                    refine ss_asgLc (c.calm hcm) (c.nox hcm) c.nd (by rw [s.N]; exact slot_at hj) (by rw [s.sc]; exact hl) (by rw [hsw, hB]) ok (cvI_ok n c s _ _ _ _ _ hi) (fun i hi => ?_) (fun _ _ _ _ _ => cvT_ok (s.blk ok) c.calm c.ek c.nd ht2)
                      (fun st H C cl fp => cvC_ok n (c.blk _ _ _ _ _) (s.blk ok) _ _ hc) (fun st H C cl fp => (cvE_ok n (c.blk _ _ _ _ _) (s.blk ok) _ _ he2).1) (folded_ok h1)
                    have := List.all_eq_true.mp hsl i hi
                    simpa using this
                  · cases he
                · cases he
              · cases he
        · cases h
      · cases h
    · -- x, y = a, b
      rename_i x px y py _ _ a b _ _ _
      split at h
      · rename_i hq
        obtain ⟨hq, hcm⟩ := and_b hq
        obtain ⟨hq, h8⟩ := and_b hq
        obtain ⟨hq, h7⟩ := and_b hq
        obtain ⟨hq, h6⟩ := and_b hq
        obtain ⟨hq, h5⟩ := and_b hq
        obtain ⟨hq, h4⟩ := and_b hq
        obtain ⟨hq, h3⟩ := and_b hq
        obtain ⟨h1, h2⟩ := and_b hq
        have h1 : sc.names.lookup x = some .local := by simpa using h1
        have h2 : sc.names.lookup y = some .local := by simpa using h2
        split at h
        · split at h
          · cases h
          · rename_i i j ma mb hi hj ha hb hij
            cases h
            intro W tk σ H mσ mh ρ R S fl mh' e D P
            simp only [evS, evE] at e
            obtain ⟨vt, m1, e1, e⟩ := bind_ok e
            obtain ⟨vs, m2, e2, e1⟩ := bind_ok e1
            cases e1
            obtain ⟨e3, rfl⟩ := ofO_ok e
            refine ⟨_, ps_par (c.calm hcm) c.nd (by rw [s.N]; exact slot_at hi) (by rw [s.N]; exact slot_at hj) hij (by rw [s.sc]; exact h1) (by rw [s.sc]; exact h2) pa_tA
              (stores_pair s h1 h2 h3 (by simpa using h4) h5 h6 (Bool.not_eq_true' _ |>.mp h7) (Bool.not_eq_true' _ |>.mp h8)) rfl, ?_⟩
            refine sa_cons (star_ok h5) (ih _ _ ha) (sa_cons (star_ok h6) (ih _ _ hb) sa_nil) σ H mσ mh ρ R S vs _ e2 _ fun ws H1 ρ1 R1 r1 S1 => ?_
            cases vs with
            | nil => simp [evEs_len e2, asgT, asgTs] at e3
            | cons v1 vs =>
              cases vs with
              | nil => simp [asgT] at e3
              | cons v2 vs =>
                cases vs with
                | cons _ _ => simp [asgT] at e3
                | nil =>
                  simp [asgT, asgTs] at e3
                  subst e3
                  obtain ⟨w1, w2, rfl, r1', r2'⟩ := r1.two'
                  have hno : ∀ {i : Nat} c fs k, M.ex = some (c, fs, k) → k ≠ i := fun _ _ _ z => by rw [c.nox hcm] at z; cases z
                  exact ⟨w1, w2, rfl, P _ H1 ρ1 R1 (((S.stp R S1).set r1' i hno).set r2' j hno) S1⟩
        · cases h
      · split at h
        · rename_i hq
          split at h
          · cases h
            rename_i t me ht he
            exact ss_asg (sole_no rfl) (stores_cell s (Bool.not_eq_true' _ |>.mp hq)) rfl (ih _ _ he) (cvT_ok s c.calm c.ek c.nd ht)
          · cases h
        · cases h
    · split at h
      · rename_i hq
        obtain ⟨h1, h2⟩ := and_b hq
        split at h
        · cases h
          rename_i tg e pos _ _ _ _ _ t me ht he
          have hns : noStar tg = true := by cases tg <;> first | rfl | (simp [cvT] at ht)
          exact ss_asg (sole_no h1) (stores_no (Bool.not_eq_true' _ |>.mp h2)) (by rw [asg_ok hns]; rfl) (ih _ _ he) (cvT_ok s c.calm c.ek c.nd ht)
        · cases h
      · cases h
    · rename_i e pos
      split at h
      · cases h
      · rename_i hrx
        cases q : cvE p sc n e with
        | none => rw [q] at h; cases h
        | some me => rw [q] at h; cases h; exact ss_ret (Bool.eq_false_iff.mpr hrx) (ih _ _ q)
    · cases h; exact ss_retN
    · split at h
      · split at h
        · cases h
          exact ss_ite (iT _ _ (by assumption) (by assumption)) (cvSs_ok n c s hp hk _ _ (by assumption)) (cvSs_ok n c s hp hk _ _ (by assumption))
        · cases h
      · cases h
    · split at h
      · rename_i hq
        obtain ⟨hpl, hcm⟩ := and_b hq
        split at h
        · cases h
          exact ss_for hp.ps (c.calm hcm) (folded_ok hpl) (cvI_ok n c s _ _ _ _ _ (by assumption)) (cvT_ok s c.calm c.ek c.nd (by assumption)) (cvSs_ok n c s hp hk _ _ (by assumption))
        · cases h
      · cases h
    · split at h
      · split at h
        · cases h
          exact ss_whl hp.ps (iT _ _ (by assumption) (by assumption)) (cvSs_ok n c s hp hk _ _ (by assumption))
        · cases h
      · cases h
    · cases h; exact ss_pass
    · cases h; exact ss_brk
    · cases h; exact ss_cont
    · cases h
theorem cvSs_ok : ∀ (n : Nat) {p : CP} {M : Cm} {X : Cx} {sc : Scope} {fn : Str → Bool} (c : EC X M p k) (s : Stat X sc fn p) (hp : FunCx X) (hk : p.cm = true → 2 ≤ k) (ss : List Stmt) (mss : List MS), cvSs p fn sc n ss = some mss → SSs X M p.rx ss mss
  | 0, _, _, _, _, _, _, _, _, _, _, _, h => by simp [cvSs] at h
  | n + 1, p, M, X, sc, fn, c, s, hp, hk, [], _, h => by simp only [cvSs] at h; cases h; exact sss_nil
  | n + 1, p, M, X, sc, fn, c, s, hp, hk, st :: ss, _, h => by
    simp only [cvSs] at h
    split at h
    · cases h
      exact sss_cons (cvS_ok n c s hp hk _ _ (by assumption)) (cvSs_ok n c s hp hk _ _ (by assumption))
    · cases h
end
end
end Mn

set_option maxHeartbeats 4000000
/-! Top: all defs of a program keep the promises of their small runs; the law's own call. -/
namespace Mn
open PySem PySem.Spec PyProof.Rows L2

/-- the kinds of defs: plain, one that may raise, one whose parameter is a refusal -/
inductive Kn where
  | pl | rx | ef
  deriving DecidableEq
/-- a def of the text: its name, its names by slot, its parameters, its small body -/
structure En where
  x : Str
  st : Stmt
  N : List Str
  ps : List Str
  mb : List MS
  kd : Kn := .pl
def tabGm (T : List En) (x : Str) : Option FD := (T.find? fun e => decide (e.x = x)).map fun e => ⟨e.ps.length, e.N.length, e.mb⟩
def names (T : List En) : List Str := T.map (·.x)
def namesK (T : List En) (kd : Kn) : List Str := (T.filter fun e => decide (e.kd = kd)).map (·.x)
def cpOf (T : List En) (B G CL : List Str) (e : En) : CP := match e.kd with
  | .pl => { N := e.N, F := namesK T .pl, B := B, G := G, RX := namesK T .rx, CL := CL, EF := namesK T .ef }
  | .rx => { N := e.N, F := namesK T .pl, B := B, G := G, RX := namesK T .rx, CL := CL, EF := namesK T .ef, rx := true }
  | .ef => { N := e.N, F := [], B := B, G := G, CL := CL, cm := false, ek := some 0 }
structure EnOk (T : List En) (B G CL : List Str) (e : En) : Prop where
  S : FnScope e.N e.ps (defScope e.st)
  cv : cvSs (cpOf T B G CL e) (fun _ => true) (defScope e.st) 200 (defBody e.st) = some e.mb
  ef : e.kd = .ef → ∃ y, e.ps = [y]
structure EnAt (K : PySem.W.Frag) (mg : Str → Option Value) (e : En) (f : Addr) (fd : FuncData) : Prop where
  F : Fun K e.x e.x e.st f fd
  g : mg e.x = some (.ref f)
  b : Binds K fd e.ps []
theorem runF_len {Γ : Str → Option FD} {gl : Str → Option MV} {W d : Nat} {f : Str} {vs : List MV} {mh : MH} {mv : MV} {mh' : MH} {fd : FD} (h : Γ f = some fd) (e : runF Γ gl W d f vs mh = .ok mv mh') : vs.length = fd.np := by
  cases d with
  | zero => cases e
  | succ d =>
    simp only [runF, h] at e
    split at e
    · assumption
    · cases e
theorem tabGm_mem {T : List En} (nd : (names T).Nodup) {e : En} (h : e ∈ T) : tabGm T e.x = some ⟨e.ps.length, e.N.length, e.mb⟩ := by
  unfold tabGm
  have : T.find? (fun e' => decide (e'.x = e.x)) = some e := by
    induction T with
    | nil => cases h
    | cons a T ih =>
      simp only [names, List.map_cons, List.nodup_cons] at nd
      by_cases ha : a.x = e.x
      · rcases List.mem_cons.mp h with rfl | h'
        · simp
        · exfalso
          apply nd.1
          rw [ha]
          exact List.mem_map.mpr ⟨e, h', rfl⟩
      · rw [List.find?_cons_of_neg (by simpa using ha)]
        rcases List.mem_cons.mp h with rfl | h'
        · exact absurd rfl ha
        · exact ih nd.2 h'
  rw [this]
  rfl
theorem namesK_mem {T : List En} {kd : Kn} {x : Str} (h : x ∈ namesK T kd) : ∃ e ∈ T, e.kd = kd ∧ e.x = x := by
  unfold namesK at h
  obtain ⟨e, h1, h2⟩ := List.mem_map.mp h
  rw [List.mem_filter] at h1
  exact ⟨e, h1.1, by simpa using h1.2, h2⟩
/-- what is known of the refusals -/
structure ClsAll (P : Program) (w : World) (K : PySem.W.Frag) (mg : Str → Option Value) (base : Heap) (CL : List Str) : Prop where
  cls : ∀ c ∈ CL, ∀ flds anc, clsTab c = some (flds, anc) → ∃ C, ClsOk P w K mg base CL c C flds anc
  clsv : ∀ x ∈ CL, ∃ u v, clv mg x = some (u, v)
  clsa : ∀ c t C, clsTab c = some t → mg c = some (.ref C) → c ∈ CL
section
variable {P : Program} {w : World} {K : PySem.W.Frag} {mg : Str → Option Value} {base : Heap} {T : List En} {B G CL : List Str} {gl : Str → Option MV} {W : Nat}
theorem ef_ok (nd : (names T).Nodup) (hB : ∀ x ∈ B, mg x = none) (hG : ∀ x v, gl x = some v → ∃ u w', mg x = some u ∧ RelV w' u ∧ ∀ ρ H, Rep K ρ H v w') (hC : ClsAll P w K mg base CL)
    (e : En) (he : e ∈ T) (ok : EnOk T B G CL e) (hk : e.kd = .ef) (f : Addr) (fd : FuncData) (A : EnAt K mg e f fd) : ∃ y, e.ps = [y] ∧ FnE P w K mg base f fd [y] (runE (tabGm T) gl W e.x) := by
  obtain ⟨y, hy⟩ := ok.ef hk
  have S := ok.S
  rw [hy] at S
  have hΓ := tabGm_mem nd he
  rw [hy] at hΓ
  refine ⟨y, hy, fnE_of A.F S hΓ fun X c fs hp hw hK hm hb hg hr hbc hkind hcl => ?_⟩
  subst hp hw hK hm hb
  have hcv := ok.cv
  unfold cpOf at hcv
  rw [hk] at hcv
  have ec : EC X { call := fun _ _ _ => .bad, gl := gl, fuel := W, ex := some (c, fs, 0) } { N := e.N, F := [], B := B, G := G, CL := CL, cm := false, ek := some 0 } 0 :=
    ⟨fun z => (by cases z), fun z => (by cases z), fun _ _ _ z => (by cases z; rfl), by rw [hbc.N]; exact S.nd, hg, fun z => (by cases z), hr, fun _ z => (by cases z), fun _ z => (by cases z), fun _ z => (by cases z), fun _ z => (by cases z), hC.cls, fun c1 fs1 k1 t z ht => (by
      cases z
      obtain ⟨C, hC'⟩ := hcl
      exact hC.clsa _ _ _ ht hC'), hC.clsv, hC.clsa, hB, hG⟩
  exact cvSs_ok 200 ec ⟨hbc.sc, hkind, hbc.N, fun x _ => hbc.fn x⟩ ⟨hbc.ps, hbc.st, hbc.fr⟩ (fun z => by cases z) _ _ hcv
theorem program_ok (nd : (names T).Nodup) (hT : ∀ e ∈ T, EnOk T B G CL e) (hA : ∀ e ∈ T, ∃ f fd, EnAt K mg e f fd) (hB : ∀ x ∈ B, mg x = none)
    (hG : ∀ x v, gl x = some v → ∃ u w', mg x = some u ∧ RelV w' u ∧ ∀ ρ H, Rep K ρ H v w') (hC : ClsAll P w K mg base CL) :
    ∀ d, ∀ e ∈ T, ∀ f fd, EnAt K mg e f fd → (e.kd = .pl → FnG P w K mg base (d + 2) f fd e.ps (spM K (runF (tabGm T) gl W d) e.x e.ps.length)) ∧ (e.kd = .rx → FnX P w K mg base (d + 2) f fd e.ps (spX mg K (runF (tabGm T) gl W d) e.x e.ps.length)) := by
  intro d
  induction d with
  | zero =>
    exact fun e he f fd A => ⟨fun _ => ⟨fun vs H Q E h => (by obtain ⟨_, _, _, _, _, _, _, _, h, _⟩ := h; cases h), fun A outer s H args us vs Q E _ _ _ _ _ h => (by obtain ⟨_, _, _, _, _, _, _, _, h, _⟩ := h; cases h)⟩,
      fun _ => ⟨fun vs H Q E h => (by obtain ⟨_, _, _, _, _, _, _, _, h, _⟩ := h; cases h), fun A outer s H args us vs Q E _ _ _ _ _ h => (by obtain ⟨_, _, _, _, _, _, _, _, h, _⟩ := h; cases h)⟩⟩
  | succ d ih =>
    intro e he f fd A
    have ok := hT e he
    have ec : ∀ (X : Cx) (rx : Bool), X.prog = P → X.w = w → X.K = K → X.mg = mg → X.base = base → X.calm = true → X.A.guards = some [] → Room (d + 2) X.A → X.N = e.N →
        EC X (cmOf (tabGm T) gl W d) { N := e.N, F := namesK T .pl, B := B, G := G, RX := namesK T .rx, CL := CL, EF := namesK T .ef, rx := rx } (d + 2) := fun X rx hp hw hK hm hb hc hg hr hN => by
      subst hp hw hK hm hb
      refine ⟨fun _ => hc, fun _ => rfl, fun _ _ _ z => (by cases z), by rw [hN]; exact ok.S.nd, hg, fun _ => hr, L2H.roomH_of hr, fun _ _ => by omega, fun x hx => ?_, fun x hx => ?_, fun x hx => ?_, hC.cls, fun _ _ _ _ z => (by cases z), hC.clsv, hC.clsa, hB, hG⟩
      · obtain ⟨e', he', hk, rfl⟩ := namesK_mem hx
        obtain ⟨f', fd', A'⟩ := hA e' he'
        exact ⟨f', fd', e'.ps, A'.g, A'.F.kp, A'.b, (ih e' he' f' fd' A').1 hk, fun vs mh mv mh' h => runF_len (tabGm_mem nd he') h⟩
      · obtain ⟨e', he', hk, rfl⟩ := namesK_mem hx
        obtain ⟨f', fd', A'⟩ := hA e' he'
        exact ⟨f', fd', e'.ps, A'.g, A'.F.kp, A'.b, (ih e' he' f' fd' A').2 hk, fun vs mh mv mh' h => runF_len (tabGm_mem nd he') h⟩
      · obtain ⟨e', he', hk, rfl⟩ := namesK_mem hx
        obtain ⟨f', fd', A'⟩ := hA e' he'
        obtain ⟨y, hy, FE⟩ := ef_ok (gl := gl) (W := W) nd hB hG hC e' he' (hT e' he') hk f' fd' A'
        have b := A'.b
        rw [hy] at b
        exact ⟨f', fd', y, A'.g, A'.F.kp, b, FE⟩
    have hcv := ok.cv
    refine ⟨fun hk => ?_, fun hk => ?_⟩
    · unfold cpOf at hcv
      rw [hk] at hcv
      exact fnG_of A.F ok.S (tabGm_mem nd he) fun X hp hw hK hm hb hc hg hr hbc hkind =>
        cvSs_ok 200 (ec X false hp hw hK hm hb hc hg hr hbc.N) ⟨hbc.sc, hkind, hbc.N, fun x _ => hbc.fn x⟩ ⟨hbc.ps, hbc.st, hbc.fr⟩ (fun _ => by omega) _ _ hcv
    · unfold cpOf at hcv
      rw [hk] at hcv
      exact fnX_of A.F ok.S (tabGm_mem nd he) fun X hp hw hK hm hb hc hg hr hbc hkind =>
        cvSs_ok 200 (ec X true hp hw hK hm hb hc hg hr hbc.N) ⟨hbc.sc, hkind, hbc.N, fun x _ => hbc.fn x⟩ ⟨hbc.ps, hbc.st, hbc.fr⟩ (fun _ => by omega) _ _ hcv
end
/-- a small value of the module's constants -/
theorem gl_int {K : PySem.W.Frag} {mg : Str → Option Value} {x : Str} {i : Int} {t : Tok} (h : mg x = some (.int i t)) : ∃ u w', mg x = some u ∧ RelV w' u ∧ ∀ ρ H, Rep K ρ H (.int i) w' := ⟨_, .int i, h, ⟨t, rfl⟩, fun _ _ => .int i⟩
/-- the law's call, from the small run -/
theorem call_mini {P : Program} {w : World} {K : PySem.W.Frag} {mg mb : Str → Option Value} {k : Nat} {fa a : Addr} {fd : FuncData} {x : Str} {call : Str → List MV → MH → R MV} {nm : Str} {s₁ : Shared} {vs : List Value} {ns : List Int}
    (KX : K.In s₁.heap) (hns : s₁.heap.Ns mainGlobals mg) (hb : s₁.heap.Ns builtinsNs mb) (hbb : ∀ x : Str, x ≠ "__name__" → mb x = bootBuiltins x) (hlim : s₁.heap.NoLimit) (hg : s₁.gens = #[])
    (ha : s₁.heap.get? a = some { cls := .type "list", data := .seq vs.toArray }) (hi : IntsAre vs ns) (hl : ns.length ≤ sizeLine) (hr : Room k callerA)
    (F : ∀ base : Heap, K.In base → base.Ns mainGlobals mg → FnG P w K mg base k fa fd [x] (spM K call nm 1)) (hbind : ∀ (s : Shared) (u : Value), BindsTo s fd ⟨[u], []⟩ [(x, u)])
    (run : ∃ mh', call nm [.ref 0] [.fro (ns.map .int)] = .ok (.bl true) mh') :
    codeAny (model P w) callerA (.call (.ref fa) ⟨[.ref a], []⟩) (fun r s' => r = .ok (.ret (.bool true)) ∧ OldK s₁.heap s'.heap ∧ s'.os = s₁.os ∧ AllBare s'.gens) s₁ := by
  have rv := vals_ints hi
  have lenV := hi.length
  have go : ∀ H : Hp, FzL K H a (ns.map V.int) → (∀ b, H b = none ∨ b = a) → (∀ u, H a = some u → K.lookup a = none ∧ u = .frz { cls := .type "list", data := .seq vs.toArray } (.lst (ns.map V.int))) →
      codeAny (model P w) callerA (.call (.ref fa) ⟨[.ref a], []⟩) (fun r s' => r = .ok (.ret (.bool true)) ∧ OldK s₁.heap s'.heap ∧ s'.os = s₁.os ∧ AllBare s'.gens) s₁ := by
    intro H hS hA hF
    have noneOf : ∀ {b : Addr} {o : Obj}, s₁.heap.get? b = some o → o ≠ { cls := .type "list", data := .seq vs.toArray } → H b = none := fun {b o} e ne => by
      rcases hA b with z | rfl
      · exact z
      · rw [ha] at e
        exact absurd (Option.some.inj e).symm ne
    have ok : HOk P w H s₁.heap := fun b u e => by
      rcases hA b with z | rfl
      · rw [z] at e; cases e
      · obtain ⟨_, rfl⟩ := hF u e
        exact ⟨ha, by rw [List.length_map]; exact hl, vs, _, rv, ha⟩
    have onB : ∀ {b : Addr} {m : Str → Option Value}, s₁.heap.Ns b m → (hidT s₁.heap H).Ns b m := fun {b m} n => by
      obtain ⟨o, es, ep, e, d, r⟩ := n
      exact ⟨o, es, ep, hidT_get e (noneOf e fun z => by rw [z] at d; cases d), d, r⟩
    have inB : K.In (hidT s₁.heap H) := fun b o e => hidT_get (KX b o e) (by
      rcases hA b with z | rfl
      · exact z
      · cases q : H b with
        | none => rfl
        | some u => rw [(hF u q).1] at e; cases e)
    have modB : Mod K mg (hidT s₁.heap H) := ⟨inB, onB hns, ⟨mb, onB hb, hbb⟩, by
      obtain ⟨mc, h1, h2⟩ := hlim
      exact ⟨mc, onB h1, h2⟩⟩
    have env0 : Env0 P w K mg (hidT s₁.heap H) callerA [] s₁ H :=
      { frames := rfl, mod := modB, bs := fun b o e => of_hidT e, bsz := Nat.le_of_eq (hidT_size _ _), funs := trivial, frf := fun b hb => (nomatch hb), hok := ok, bare := .of_eq hg }
    have R0 : RepH K [a] [.fro (ns.map .int)] H := by
      refine ⟨rfl, fun i j p oa ob e1 e2 e3 e4 m1 m2 => ?_, fun i p o e1 e2 => ?_⟩
      · cases i with
        | zero => simp at e3; subst e3; cases m1
        | succ i => simp at e3
      · cases i with
        | zero =>
          simp at e1 e2
          subst e1 e2
          exact ⟨_, hS, .ofInts ns⟩
        | succ i => simp at e2
    obtain ⟨mh', run⟩ := run
    have prom : spM K call nm 1 [.ref a] H (fun v _ => v = .bl true) (fun _ _ _ => False) :=
      ⟨[a], _, [.ref 0], _, mh', R0, .cons (.ref rfl) .nil, rfl, run, fun v H' ρ' _ r _ => by cases r; rfl⟩
    refine codeAny_mono ((F _ inB (onB hns)).run callerA [] s₁ H ⟨[.ref a], []⟩ [.ref a] [.ref a] _ _ rfl hr env0 (hbind s₁ (.ref a)) (.cons rfl .nil) prom) fun r s' h => ?_
    cases r with
    | error e => exact (show False from h).elim
    | ok fl =>
      cases fl with
      | ret u =>
        obtain ⟨v, H', os, bare, un, ok', rel, q⟩ := h
        have q' : v = .bl true := q
        subst q'
        have hu : u = Value.bool true := rel
        subst hu
        refine ⟨rfl, OldK.of_keep fun b o e => ?_, os, bare⟩
        cases q : H b with
        | none => exact un.keep b o e q (by intro z; cases z) (by intro z; cases z)
        | some u =>
          rcases hA b with z | rfl
          · rw [q] at z; cases z
          · obtain ⟨_, rfl⟩ := hF u q
            obtain ⟨e2, _⟩ := ok' b _ (un.frzs b _ _ q)
            rw [ha] at e
            cases e
            exact e2
      | _ => exact False.elim h
  cases hk : K.lookup a with
  | some o =>
    have e := KX a o hk
    rw [ha] at e
    cases e
    exact go (fun _ => none) (.inr (.inr ⟨_, vs.toArray, _, hk, rfl, rfl, rfl, by rw [List.size_toArray, lenV]; exact hl, by simpa using rv⟩)) (fun _ => .inl rfl) (fun u z => by cases z)
  | none =>
    refine go (fun b => if b = a then some (.frz { cls := .type "list", data := .seq vs.toArray } (.lst (ns.map V.int))) else none) (.inl ⟨_, if_pos rfl⟩) (fun b => ?_) (fun u z => ⟨hk, ?_⟩)
    · by_cases hb : b = a
      · exact .inr hb
      · exact .inl (if_neg hb)
    · have z' := (if_pos rfl).symm.trans z
      exact (Option.some.inj z').symm
/-- the goal that k_head leaves -/
theorem walk_mini {l : PySem.W.OpenLaw} {n k : Nat} {q : Program} {loose : List Str} {XP : (Str → Option Value) → Heap → Prop} {YP : World → Heap → Prop} {d : DefRec} {K : Params → PySem.W.Frag} {x : Str} {call : Str → List MV → MH → R MV}
    (hn : l.most = some n) (hn2 : n ≤ sizeLine) (hdf : d.params.defaults = []) (hr : Room k callerA) (hY : ∀ (w : World) (h : Heap), YP w h → (K w.params).In h)
    (run : ∀ ns : List Int, ns.length ≤ n → ∃ mh', call d.name [.ref 0] [.fro (ns.map .int)] = .ok (.bl true) mh')
    (F : ∀ (w : World) (mg : Str → Option Value) (fa : Addr) (h : Heap), (K w.params).In h → h.Ns mainGlobals mg → mg d.name = some (.ref fa) →
      ∃ fd : FuncData, (∀ (s : Shared) (u : Value), BindsTo s fd ⟨[u], []⟩ [(x, u)]) ∧
        ∀ base : Heap, (K w.params).In base → base.Ns mainGlobals mg → FnG l.prog w (K w.params) mg base k fa fd [x] (spM (K w.params) call d.name 1)) :
    PySem.W.WalkO q loose XP YP l.row.toRowW d [] (fun f vs => PySem.call f vs) := by
  refine Att.attach_call hn hdf fun w s₀ s₁ mg mb fa o pm cd doc a vs ns G Y ho hd hcd hmg hobj hints hlen hg => ?_
  have KX := hY w _ Y
  obtain ⟨fd, hb, hF⟩ := F w mg fa _ KX G.T.g hmg
  exact call_mini KX G.T.g G.T.b G.T.builtins G.T.nolimit hg hobj hints (Nat.le_trans hlen hn2) hr hF hb (run ns hlen)
end Mn

set_option maxHeartbeats 2000000
/-! ClsT: what a text's classes of refusals are, from the written part. -/
namespace Mn
open PySem PySem.Spec PyProof.Rows L2
def seven : List Str := ["NoPaper", "NoWalk", "NoText", "NoTurns", "NoTie", "TooMany", "NoLine"]
def cvl (K : PySem.W.Frag) (c : Str) : Value := match PySem.W.nsIn K mainGlobals c with
  | some (some v) => v
  | _ => .type "ValueError"
def clK (K : PySem.W.Frag) (c : Str) : Bool := match PySem.W.nsIn K mainGlobals c with
  | some (some (.ref _)) => true
  | some none => decide (c = "ValueError")
  | _ => false
def cB (K : PySem.W.Frag) (C : Addr) (CL flds anc : List Str) : Bool :=
  xfB K C && (decide (PySem.W.findIn K (.ref C) "__setattr__" = some (some (.builtin "object.__setattr__"))) && (decide (PySem.W.typeIn K (.ref C) = some (.type "type")) && (PySem.W.keepIn K (.ref C) &&
  (decide (PySem.W.findIn K (.ref C) "__class__" = some (some (.builtin "object.__class__"))) && (decide (PySem.W.specialIn K (.builtin "object.__class__") "__get__" = some (some (.builtin "getset_descriptor.__get__"))) && (decide (PySem.W.takesIn K (.builtin "object.__class__") = some true) && (decide (PySem.W.mroIn K C (.type "object") = some true) &&
  (flds.all (fun f => decide (PySem.W.findIn K (.ref C) f = some none)) && CL.all fun c' => clK K c' && (decide (PySem.W.kitOne K (.ref C) (cvl K c') = some (anc.contains c')) && decide (PySem.W.exmOne K (.ref C) (cvl K c') = some (anc.contains c')))))))))))
def jB (K : PySem.W.Frag) (J : Addr) : Bool := PySem.W.readsIn K J (.type "type") && (decide (PySem.W.specialIn K (.ref J) "__getattribute__" = some (some (.builtin "type.__getattribute__"))) && (match PySem.W.findCls K (.ref J) (.type "type") "__init__" with
  | some (.val v) => decide (v = .builtin "ValueError.__init__")
  | _ => false))
/-- a class's own function -/
def inner (st : Stmt) : Stmt := match st with
  | .ClassDef _ _ _ (b :: _) _ _ _ _ _ _ _ => b
  | s => s
/-- what the written part says of a class -/
def CF (K : PySem.W.Frag) (c qual : Str) (st : Stmt) (CL flds anc : List Str) : Prop := ∃ (C fI : Addr) (nm q : Str) (N : Addr) (bs bm : List Value) (sn : List Str) (sub : List Value) (ab : Bool) (col : Option Bool) (dd : Option Addr) (k0 k1 k2 k3 k5 : Option Value)
    (od an : Option Addr) (sl : Array (Option Value)) (oc kV dc pm cd ct : Value),
  PySem.W.nsIn K mainGlobals c = some (some (.ref C)) ∧ K.lookup C = some (excClassObj nm q C N bs bm true sn sub ab col dd k0 k1 k2 k3 k5 "ValueError.__new__") ∧ PySem.HandSPX.refsVE bm = true ∧ cB K C CL flds anc = true ∧
  PySem.W.findIn K (.ref C) "__init__" = some (some (.ref fI)) ∧ PySem.W.typeIn K (.ref fI) = some (.type "function") ∧
  K.lookup fI = some ⟨oc, od, .func (PySem.W.fnOf "__init__" qual (defArgs st) (defBody st) (defScope st) .none kV dc pm an cd ct), sl⟩ ∧ PySem.W.codeIn K cd qual = true ∧ PySem.W.keepIn K (.ref fI) = true
theorem CF_mk {K : PySem.W.Frag} {c qual : Str} {st : Stmt} {CL flds anc : List Str} {C fI : Addr} {nm q : Str} {N : Addr} {bs bm : List Value} {sn : List Str} {sub : List Value} {ab : Bool} {col : Option Bool} {dd : Option Addr} {k0 k1 k2 k3 k5 : Option Value}
    {od an : Option Addr} {sl : Array (Option Value)} {oc kV dc pm cd ct : Value}
    (ca : PySem.W.nsIn K mainGlobals c = some (some (.ref C))) (cl : K.lookup C = some (excClassObj nm q C N bs bm true sn sub ab col dd k0 k1 k2 k3 k5 "ValueError.__new__")) (cv : PySem.HandSPX.refsVE bm = true) (cq : cB K C CL flds anc = true)
    (ci : PySem.W.findIn K (.ref C) "__init__" = some (some (.ref fI))) (ct' : PySem.W.typeIn K (.ref fI) = some (.type "function"))
    (cf : K.lookup fI = some ⟨oc, od, .func (PySem.W.fnOf "__init__" qual (defArgs st) (defBody st) (defScope st) .none kV dc pm an cd ct), sl⟩) (cc : PySem.W.codeIn K cd qual = true) (ck : PySem.W.keepIn K (.ref fI) = true) : CF K c qual st CL flds anc :=
  ⟨C, fI, nm, q, N, bs, bm, sn, sub, ab, col, dd, k0, k1, k2, k3, k5, od, an, sl, oc, kV, dc, pm, cd, ct, ca, cl, cv, cq, ci, ct', cf, cc, ck⟩
/-- the names beside -/
def vB (K : PySem.W.Frag) (CL : List Str) : Bool := CL.all (clK K) && seven.all fun c => CL.contains c || decide (PySem.W.nsIn K mainGlobals c = some none)
section
variable {P : Program} {w : World} {K : PySem.W.Frag} {mg : Str → Option Value} {base h : Heap} {c qual : Str} {st : Stmt} {CL flds anc : List Str} {f g m : Str}
theorem clv_of (X : K.In h) (G : h.Ns mainGlobals mg) {c : Str} (q : clK K c = true) : ∃ v, clv mg c = some (cvl K c, v) := by
  unfold clK at q
  unfold clv cvl
  split at q
  · rename_i a e; rw [PySem.W.mg_of X G e, e]; exact ⟨_, rfl⟩
  · rename_i e; rw [PySem.W.mg_none_of X G e, e]; have := of_decide_eq_true q; subst this; exact ⟨_, rfl⟩
  · cases q
theorem join_of (X : K.In h) (G : h.Ns mainGlobals mg) {J : Addr} (a : PySem.W.nsIn K mainGlobals "JoinError" = some (some (.ref J))) (q : jB K J = true) : JoinOk K mg J := by
  obtain ⟨h1, q⟩ := Bool.and_eq_true_iff.mp q
  obtain ⟨h2, h3⟩ := Bool.and_eq_true_iff.mp q
  refine ⟨PySem.W.mg_of X G a, h1, of_decide_eq_true h2, ?_⟩
  split at h3
  · rename_i v e; rw [e, of_decide_eq_true h3]
  · cases h3
/-- what is left to say: that its __init__ sets the fields -/
theorem cls_of (X : K.In h) (G : h.Ns mainGlobals mg) (F : CF K c qual st CL flds anc)
    (hi : ∀ (fI C : Addr) (fd : FuncData), Fun K "__init__" qual st fI fd → OexC K C → (∀ f ∈ flds, PySem.W.findIn K (.ref C) f = some none) → ∃ ps, Binds K fd ps [] ∧ FnOk P w K mg base (L2.CX P w) 1 fI fd ps (spIni C flds)) :
    ∃ C, ClsOk P w K mg base CL c C flds anc := by
  obtain ⟨C, fI, nm, q, N, bs, bm, sn, sub, ab, col, dd, k0, k1, k2, k3, k5, od, an, sl, oc, kV, dc, pm, cd, ct, ca, cl, cv, cq, ci, ct', cf, cc, ck⟩ := F
  unfold cB at cq
  obtain ⟨h1, cq⟩ := Bool.and_eq_true_iff.mp cq
  obtain ⟨h2, cq⟩ := Bool.and_eq_true_iff.mp cq
  obtain ⟨h3, cq⟩ := Bool.and_eq_true_iff.mp cq
  obtain ⟨h4, cq⟩ := Bool.and_eq_true_iff.mp cq
  obtain ⟨h5, cq⟩ := Bool.and_eq_true_iff.mp cq
  obtain ⟨h6, cq⟩ := Bool.and_eq_true_iff.mp cq
  obtain ⟨h7, cq⟩ := Bool.and_eq_true_iff.mp cq
  obtain ⟨h8, cq⟩ := Bool.and_eq_true_iff.mp cq
  obtain ⟨h9, cq⟩ := Bool.and_eq_true_iff.mp cq
  have x := xfB_ok h1
  have o : OexC K C := ⟨⟨nm, q, N, bs, bm, sn, sub, ab, col, dd, k0, k1, k2, k3, k5, cl, cv⟩, of_decide_eq_true h2, x.exC, of_decide_eq_true h3, h4⟩
  have nof : ∀ f ∈ flds, PySem.W.findIn K (.ref C) f = some none := fun f hf => of_decide_eq_true (List.all_eq_true.mp h9 f hf)
  obtain ⟨ps, b, F⟩ := hi fI C _ (fun_mk (st := st) cf cc ck) o nof
  refine ⟨C, PySem.W.mg_of X G ca, o, x, ⟨x.ga, x.gg, x.exC, x.hdC, of_decide_eq_true h5, of_decide_eq_true h6, of_decide_eq_true h7, of_decide_eq_true h8⟩, nof, fun _ => ⟨fI, _, ps, ci, ct', b, F⟩, fun c' hc => ?_⟩
  have z := List.all_eq_true.mp cq c' hc
  obtain ⟨z1, z⟩ := Bool.and_eq_true_iff.mp z
  obtain ⟨z2, z3⟩ := Bool.and_eq_true_iff.mp z
  obtain ⟨v, hv⟩ := clv_of X G z1
  exact ⟨_, v, hv, of_decide_eq_true z2, of_decide_eq_true z3⟩
theorem tab_seven {t : List Str × List Str} (e : clsTab c = some t) : c ∈ seven := by
  unfold clsTab at e
  unfold seven
  repeat (split at e; (rename_i q; rw [q]; simp))
  cases e
theorem all_of (X : K.In h) (G : h.Ns mainGlobals mg) (q : vB K CL = true) (hc : ∀ c ∈ CL, ∀ flds anc, clsTab c = some (flds, anc) → ∃ C, ClsOk P w K mg base CL c C flds anc) : ClsAll P w K mg base CL := by
  obtain ⟨q1, q2⟩ := Bool.and_eq_true_iff.mp q
  refine ⟨hc, fun x hx => ?_, fun c t C e1 e2 => ?_⟩
  · obtain ⟨v, hv⟩ := clv_of X G (List.all_eq_true.mp q1 x hx)
    exact ⟨_, v, hv⟩
  · have := List.all_eq_true.mp q2 c (tab_seven e1)
    rcases Bool.or_eq_true_iff.mp this with h1 | h1
    · simpa using h1
    · rw [PySem.W.mg_none_of X G (of_decide_eq_true h1)] at e2
      cases e2
end
end Mn

/-! Pv: values without places: what a variable holds is a tree. The evaluator over them. -/
namespace Mn
open PySem L2

inductive PV where
  | non | bl (b : Bool) | int (i : Int) | str (s : Str) | tup (xs : List PV) | lst (xs : List PV) | fro (xs : List PV) | dct (kvs : List (Key × PV)) | lck
  deriving Inhabited
/-- what an expression comes to: a value that nothing changes; a list or dict that nobody else holds; a variable's own -/
inductive Opd where
  | val (v : PV) | own (v : PV) | bor (i : Nat)
abbrev PS := List (Option PV)
inductive Q (α : Type) where
  | ok (a : α) (σ : PS) | exc (c : Str) (fs : List PV) (σ : PS) | bad
def Q.bind {α β : Type} : Q α → (α → PS → Q β) → Q β
  | .ok a σ, f => f a σ
  | .exc c fs σ, _ => .exc c fs σ
  | .bad, _ => .bad
inductive CR where
  | ok (o : Opd) (ios : List PV) | exc (c : Str) (fs : List PV) (ios : List PV) | bad
inductive Cls where
  | sh | ow | io | br | bf
  deriving DecidableEq
inductive PK where
  | pl | io | br
  deriving DecidableEq

mutual
def emb : MV → PV
  | .non => .non
  | .bl b => .bl b
  | .int i => .int i
  | .str s => .str s
  | .tup xs => .tup (embs xs)
  | .ref _ => .non
def embs : List MV → List PV
  | [] => []
  | x :: xs => emb x :: embs xs
end
mutual
/-- the tree of a value, lists within lists up to a depth -/
def dP : PV → Nat → Option PyData
  | .non, _ => some .none
  | .bl b, _ => some (.bool b)
  | .int i, _ => some (.int i)
  | .str s, _ => some (.str s)
  | .tup xs, n => (dPs xs n).map .tuple
  | .lst xs, n => match n with
    | 0 => none
    | n + 1 => (dPs xs n).map .list
  | .fro xs, n => match n with
    | 0 => none
    | n + 1 => (dPs xs n).map .list
  | .dct _, _ => none
  | .lck, _ => none
def dPs : List PV → Nat → Option (List PyData)
  | [], _ => some []
  | x :: xs, n => match dP x n, dPs xs n with
    | some d, some ds => some (d :: ds)
    | _, _ => none
end
/-- a list or a dict -/
def isLD : PV → Bool
  | .lst _ => true
  | .fro _ => true
  | .dct _ => true
  | .lck => true
  | _ => false
def isLk : PV → Bool
  | .lck => true
  | _ => false
def lstsP : PV → Option (List PV)
  | .lst xs => some xs
  | .fro xs => some xs
  | _ => none
def seqsP : PV → Option (List PV)
  | .tup xs => some xs
  | v => lstsP v
def truthP : PV → Option Bool
  | .non => some false
  | .bl b => some b
  | .int i => some (i != 0)
  | .str s => if s.length ≤ lineM then some (s.length != 0) else none
  | .tup xs => some (!xs.isEmpty)
  | .lst xs => some (!xs.isEmpty)
  | .fro xs => some (!xs.isEmpty)
  | .dct kvs => some (!kvs.isEmpty)
  | .lck => none
def allIntsP : List PV → Option (List Int)
  | [] => some []
  | .int i :: xs => (allIntsP xs).map (i :: ·)
  | _ :: _ => none
def allBlsP : List PV → Option (List Bool)
  | [] => some []
  | .bl i :: xs => (allBlsP xs).map (i :: ·)
  | _ :: _ => none
def flatP : PV → Bool
  | .non => true
  | .bl _ => true
  | .int _ => true
  | .str _ => true
  | _ => false
def eqFP (x y : PV) : Bool := match dP x 0, dP y 0 with
  | some d, some e => PyData.eqv d e
  | _, _ => false
def keyOfP : PV → Option Key
  | .int i => some (.inl i)
  | .str s => some (.inr s)
  | _ => none
def getKP (k : Key) (kvs : List (Key × PV)) : Option PV := (kvs.find? fun kv => decide (kv.1 = k)).map (·.2)
def putKP (k : Key) (v : PV) (kvs : List (Key × PV)) : List (Key × PV) :=
  if (kvs.any fun kv => decide (kv.1 = k)) = true then kvs.map (fun kv => if kv.1 = k then (kv.1, v) else kv) else kvs ++ [(k, v)]
section
local instance (priority := 10000) clP4 (p : Prop) : Decidable p := Classical.propDecidable p
def binP (op : Operator) (x y : PV) : Option Opd :=
  match op, x, y with
  | .Add, .int i, .int j => some (.val (.int (i + j)))
  | .Add, .str a, .str b => if a.length + b.length ≤ lineM then some (.val (.str (a ++ b))) else none
  | .Add, .tup a, .tup b => if a.length + b.length ≤ lineM then some (.val (.tup (a ++ b))) else none
  | .Add, .lst a, .lst b => if a.length + b.length ≤ lineM then some (.own (.lst (a ++ b))) else none
  | .Sub, .int i, .int j => some (.val (.int (i - j)))
  | .Mult, .int i, .int j => if i.natAbs < 2 ^ 64 ∨ j.natAbs < 2 ^ 64 then some (.val (.int (i * j))) else none
  | .Mult, .lst xs, .int k => if -(2 ^ 63) ≤ k ∧ k < 2 ^ 63 ∧ xs.length * k.toNat ≤ lineM then some (.own (.lst (List.replicate k.toNat xs).flatten)) else none
  | .Mult, .tup xs, .int k => if 2 ≤ k ∧ k ≤ 1000 ∧ xs.length ≤ 1000 ∧ xs ≠ [] then some (.val (.tup (List.replicate k.toNat xs).flatten)) else if k = 1 then some (.val (.tup xs)) else none
  | .FloorDiv, .int i, .int j => if 0 < j ∧ j < 1073741824 then some (.val (.int (i / j))) else none
  | .Mod, .int i, .int j => if 0 < j then some (.val (.int (i % j))) else none
  | .Pow, .int i, .int j => if 0 ≤ j ∧ j ≤ 1000000 ∧ i.natAbs < 2 ^ 64 then some (.val (.int (i ^ j.toNat))) else none
  | .LShift, .int i, .int j => if 0 ≤ j ∧ j ≤ 1000000 ∧ i.natAbs < 2 ^ 64 then some (.val (.int (i * 2 ^ j.toNat))) else none
  | .RShift, .int i, .int j => if 0 ≤ j then some (.val (.int (i / 2 ^ j.toNat))) else none
  | .BitAnd, .int i, .int j => some (.val (.int (Builtin.bitAnd i j)))
  | .BitOr, .int i, .int j => some (.val (.int (Builtin.bitOr i j)))
  | .BitXor, .int i, .int j => some (.val (.int (Builtin.bitXor i j)))
  | .Add, .bl i, .int j => some (.val (.int (cond i 1 0 + j)))
  | .Sub, .bl i, .int j => some (.val (.int (cond i 1 0 - j)))
  | .Mult, .str z, .int k => if k = 0 ∨ k = 1 then some (.val (.str (mul01 z k))) else none
  | _, _, _ => none
end
def eqDP (x y : PV) : Option Bool := match dP x 6, dP y 6 with
  | some d, some e => if shp d && shp e then some (PyData.eqv d e) else none
  | _, _ => none
def strOfP : PV → Option Str
  | .str s => some s
  | _ => none
def eqP (x y : PV) : Option Bool := match strOfP x, strOfP y with
  | some a, some b => some (decide (a = b))
  | _, _ => eqDP x y
def inLP (x : PV) (ys : List PV) : Option Bool :=
  if flatP x && ys.all flatP then some (ys.any fun z => eqFP z x) else
    match dP x 6, dPs ys 5 with
    | some d, some ds => if shp d && shp (.list ds) then some (ds.any fun z => PyData.eqv z d) else none
    | _, _ => none
def inP (x y : PV) : Option Bool := match y with
  | .tup ys => if flatP x && ys.all flatP then some (ys.any fun z => eqFP z x) else none
  | .dct kvs => (keyOfP x).map fun k => (getKP k kvs).isSome
  | .lst ys => inLP x ys
  | .fro ys => inLP x ys
  | .str z => match x with
    | .str w => some (!(Builtin.Str.occurrences z w 0 z.length 1).isEmpty)
    | _ => none
  | _ => none
def isNon : PV → Bool
  | .non => true
  | _ => false
def cmpP (op : CmpOp) (x y : PV) : Option Bool :=
  match op with
  | .Eq => eqP x y
  | .NotEq => (eqP x y).map (!·)
  | .Lt => match x, y with
    | .int i, .int j => some (decide (i < j))
    | _, _ => none
  | .LtE => match x, y with
    | .int i, .int j => some (decide (i ≤ j))
    | _, _ => none
  | .Gt => match x, y with
    | .int i, .int j => some (decide (j < i))
    | _, _ => none
  | .GtE => match x, y with
    | .int i, .int j => some (decide (j ≤ i))
    | _, _ => none
  | .In => inP x y
  | .NotIn => (inP x y).map (!·)
  | .Is => match y with
    | .non => some (isNon x)
    | .bl b => match x with
      | .bl a => some (decide (a = b))
      | _ => none
    | _ => none
  | .IsNot => match y with
    | .non => some (!isNon x)
    | .bl b => match x with
      | .bl a => some (!decide (a = b))
      | _ => none
    | _ => none
def ixP (x y : PV) : Option PV := match x, y with
  | .tup xs, .int i => atI xs i
  | .lst xs, .int i => atI xs i
  | .fro xs, .int i => atI xs i
  | .dct kvs, y => (keyOfP y).bind fun k => getKP k kvs
  | .str z, .int i => if z.length ≤ lineM then (atI z.cps.toList i).map fun c => .str ⟨#[c]⟩ else none
  | _, _ => none
def cutP (xs : List PV) (lo hi : Option Int) : List PV := (xs.drop (HT.sIx xs.length 0 lo)).take (HT.sIx xs.length xs.length hi - HT.sIx xs.length 0 lo)
def slP (x : PV) (lo hi : Option Int) : Option Opd := match x with
  | .tup xs => some (.val (.tup (cutP xs lo hi)))
  | .lst xs => some (.own (.lst (cutP xs lo hi)))
  | .fro xs => some (.own (.lst (cutP xs lo hi)))
  | .str z => if z.length ≤ lineM then some (.val (.str (cutS z lo hi))) else none
  | _ => none
def revP (x : PV) : Option Opd := match x with
  | .tup xs => some (.val (.tup xs.reverse))
  | .lst xs => some (.own (.lst xs.reverse))
  | .fro xs => some (.own (.lst xs.reverse))
  | _ => none
def setV (o i v : PV) : Option PV := match o with
  | .lst xs => match i with
    | .int i => (ixN xs.length i).bind fun j => if j < xs.length then some (.lst (xs.set j v)) else none
    | _ => none
  | .dct kvs => (keyOfP i).bind fun k => if kvs.length < lineM then some (.dct (putKP k v kvs)) else none
  | _ => none
def isiP (x : PV) (t : Ty) : Option Bool := match x with
  | .non => some false
  | .bl _ => some (decide (t = .int) || decide (t = .bool))
  | .int _ => some (decide (t = .int))
  | .str _ => some (decide (t = .str))
  | .tup _ => some (decide (t = .tuple))
  | .lst _ => some (decide (t = .list))
  | .dct _ => some (decide (t = .dict))
  | _ => none
def minP (xs : List PV) : Option Opd := match dPs xs 5 with
  | some ds => if ordOk ds = true then (xs[minIx ds]?).map .val else none
  | none => none
def bltP (b : Bi) (vs : List PV) : Option Opd := match b, vs with
  | .len, [.str z] => if z.length ≤ lineM then some (.val (.int z.length)) else none
  | .len, [.tup xs] => some (.val (.int xs.length))
  | .len, [.lst xs] => some (.val (.int xs.length))
  | .len, [.fro xs] => some (.val (.int xs.length))
  | .len, [.dct xs] => some (.val (.int xs.length))
  | .sum, [v] => ((lstsP v).bind allIntsP).map fun ns => .val (.int ns.sum)
  | .all, [v] => ((lstsP v).bind allBlsP).map fun ns => .val (.bl (ns.all id))
  | .any, [v] => ((lstsP v).bind allBlsP).map fun ns => .val (.bl (ns.any id))
  | .tuple, [v] => (seqsP v).map fun xs => .val (.tup xs)
  | .list, [v] => (seqsP v).map fun xs => .own (.lst xs)
  | .int, [.int i] => some (.val (.int i))
  | .int, [.bl k] => some (.val (.int (if k then 1 else 0)))
  | .str, [.int i] => if i.natAbs.log2 < 1920 then some (.val (.str (toString i))) else none
  | .str, [.str s] => some (.val (.str s))
  | .str, [.bl k] => some (.val (.str (if k = true then "True" else "False")))
  | .repr, [v] => ((dP v 6).bind reprD).map fun s => .val (.str s)
  | .abs, [.int i] => some (.val (.int (if i < 0 then -i else i)))
  | .max, [.int i, .int j] => some (.val (.int (if j > i then j else i)))
  | .min, [.int i, .int j] => some (.val (.int (if j < i then j else i)))
  | .max, [v] => match (seqsP v).bind allIntsP with
    | some (n :: ns) => some (.val (.int (PySem.W.maxOf n ns)))
    | _ => none
  | .min, [v] => match (seqsP v).bind allIntsP with
    | some (n :: ns) => some (.val (.int (PySem.W.minOf n ns)))
    | _ => (seqsP v).bind minP
  | .sorted, [.dct kvs] => match intKeys kvs with
    | some ns => if ns.length < 64 then some (.own (.lst ((ns.mergeSort fun x y => decide (x ≤ y)).map .int))) else none
    | none => none
  | .sorted, [v] => ((seqsP v).bind allIntsP).map fun ns => .own (.lst ((ns.mergeSort fun x y => decide (x ≤ y)).map .int))
  | _, _ => none
def kdP : PV → Option Kd
  | .str _ => some .str
  | .tup _ => some .tuple
  | .lst _ => some .list
  | .fro _ => some .list
  | .dct _ => some .dict
  | _ => none
section
local instance (priority := 10000) clP5 (p : Prop) : Decidable p := Classical.propDecidable p
/-- a method that changes its list: what it tells, and the list behind it -/
def methP (m : Me) (o : PV) (vs : List PV) : Option (PV × PV) := match o with
  | .lst xs => match m, vs with
    | .append, [y] => if xs.length < lineM then some (.non, .lst (xs ++ [y])) else none
    | .extend, [.lst ys] => if xs.length + ys.length ≤ lineM then some (.non, .lst (xs ++ ys)) else none
    | .extend, [.tup ys] => if xs.length + ys.length ≤ lineM then some (.non, .lst (xs ++ ys)) else none
    | .pop, [] => (xs[xs.length - 1]?).map fun y => (y, .lst xs.dropLast)
    | .pop, [.int i] => if 0 ≤ i ∧ i < 2 ^ 62 then (xs[i.toNat]?).map fun y => (y, .lst (xs.eraseIdx i.toNat)) else none
    | .insert, [.int i, y] => if xs.length < lineM ∧ 0 ≤ i ∧ i < 2 ^ 62 then some (.non, .lst (xs.take i.toNat ++ [y] ++ xs.drop i.toNat)) else none
    | .reverse, [] => some (.non, .lst xs.reverse)
    | .clear, [] => some (.non, .lst [])
    | .remove, [.int k] => ((allIntsP xs).bind fun ns => idxI ns k).map fun j => (.non, .lst (xs.eraseIdx j))
    | _, _ => none
  | _ => none
end
/-- a method that only reads -/
def readP (m : Me) (o : PV) (vs : List PV) : Option Opd := match o with
  | .dct kvs => match m, vs with
    | .get, [k] => (keyOfP k).map fun k => .val ((getKP k kvs).getD .non)
    | .get, [k, d] => (keyOfP k).map fun k => .val ((getKP k kvs).getD d)
    | _, _ => none
  | .lst xs => match m, vs with
    | .count, [.int k] => ((allIntsP xs).bind fun ns => cntI .count ns k).map fun j => .val (.int j)
    | .index, [.int k] => ((allIntsP xs).bind fun ns => cntI .index ns k).map fun j => .val (.int j)
    | _, _ => none
  | _ => none
def Me.reads : Me → Bool
  | .get => true
  | .count => true
  | .index => true
  | _ => false
def enumP (xs : List PV) : List PV := xs.mapIdx fun i x => .tup [.int i, x]
def zipP (xs ys : List PV) : List PV := xs.zipWith (fun x y => .tup [x, y]) ys
def rngIP (lo : Int) (n : Nat) : List PV := (List.range n).map fun k => .int (lo + (k : Nat))
def pairUpP : List PV → Option (List (Key × PV))
  | [] => some []
  | x :: y :: r => match keyOfP x, pairUpP r with
    | some k, some ps => some ((k, y) :: ps)
    | _, _ => none
  | _ => none
section
local instance (priority := 10000) clP6 (p : Prop) : Decidable p := Classical.propDecidable p
def rngP (x y : PV) : Option (List PV) := match x, y with
  | .int i, .int j => if -(2 ^ 62) ≤ i ∧ i < 2 ^ 62 ∧ -(2 ^ 62) ≤ j ∧ j < 2 ^ 62 ∧ (j - i).toNat ≤ lineM then some (rngIP i (j - i).toNat) else none
  | _, _ => none
def itP (k : IK) (x y : PV) : Option (List PV) := match k, x, y with
  | .val, x, _ => seqsP x
  | .rng1, .int j, _ => if -(2 ^ 62) ≤ j ∧ j < 2 ^ 62 then some (rngIP 0 j.toNat) else none
  | .rng2, .int i, .int j => if (-(2 ^ 62) ≤ i ∧ i < 2 ^ 62) ∧ (-(2 ^ 62) ≤ j ∧ j < 2 ^ 62) then some (rngIP i (j - i).toNat) else none
  | .enum, x, _ => (seqsP x).map enumP
  | .zip, .tup xs, .tup ys => some (zipP xs ys)
  | .zip, x, y => match lstsP x, lstsP y with
    | some xs, some ys => some (zipP xs ys)
    | _, _ => none
  | _, _, _ => none
end
/-! ### sets, refusals -/
def srtP (x : PV) : Option Opd := match x with
  | .tup xs => match allIntsP xs with
    | some ns => if ns.length ≤ 1000 ∧ ns.eraseDups.length < 64 then some (.own (.lst ((srtI ns).map .int))) else none
    | none => none
  | _ => none
def lenP (x : PV) : Option Opd := match (seqsP x).bind allIntsP with
  | some ns => if ns.length ≤ 1000 then some (.val (.int ns.eraseDups.length)) else none
  | none => none
def encXP (c : Str) (fs : List PV) : PV := .tup (.str bang :: .str c :: fs)
def decXP : PV → Option (Str × List PV)
  | .tup (.str m :: .str c :: fs) => if m = bang then (if fs.all flatP then some (c, fs) else none) else none
  | _ => none
/-- what a call told: a refusal, or not -/
def decO : Opd → Option (Option (Str × List PV))
  | .val v => some (decXP v)
  | .own _ => some none
  | .bor _ => none
def fldXP (c : Str) (fs : List PV) (x : Str) : Option PV := (clsTab c).bind fun t => if t.1.length = fs.length then (t.1.zip fs).lookup x else none
def raisableP (c : Str) (vs : List PV) : Bool := vs.all flatP && (match clsTab c with
  | some t => t.1.length == vs.length
  | none => false)
def wrapP : Wr → Opd → Option (Option Opd)
  | .val, o => some (some o)
  | .drop, _ => some none
  | .isT, .val (.bl b) => some (some (.val (.bl b)))
  | .ifT, .val (.bl true) => some (some (.val (.bl true)))
  | .ifT, .val (.bl false) => some none
  | _, _ => none
/-! ### stores -/
structure CQ where
  call : Str → List PV → CR
  sig : Str → Option (List PK × Bool)
  cl : Nat → Cls
  gl : Str → Option MV
  fuel : Nat
  ex : Option (Str × List PV × Nat) := none
  callE : Str → Str → List PV → CR := fun _ _ _ => .bad
def CQ.at (X : CQ) (k : Nat) : Option (Str × List PV) := match X.ex with
  | some (c, fs, k') => if k = k' then some (c, fs) else none
  | none => none
def CQ.with (X : CQ) (k : Option Nat) (c : Str) (fs : List PV) : CQ := { X with ex := k.map fun k => (c, fs, k) }
/-- what a variable holds, where it may be read -/
def rdV (σ : PS) (i : Nat) : Option PV := match σ[i]? with
  | some (some v) => if isLk v then none else some v
  | _ => none
def lookO (σ : PS) : Opd → Option PV
  | .val v => some v
  | .own v => some v
  | .bor i => rdV σ i
def looks (σ : PS) : List Opd → Option (List PV)
  | [] => some []
  | o :: os => match lookO σ o, looks σ os with
    | some v, some vs => some (v :: vs)
    | _, _ => none
/-- as a value that may be kept: a variable's own is taken out of it -/
def force (cl : Nat → Cls) (o : Opd) (σ : PS) : Option (Opd × PS) := match o with
  | .val v => some (.val v, σ)
  | .own v => some (.own v, σ)
  | .bor i => if cl i = .ow then (rdV σ i).map fun v => (if isLD v then .own v else .val v, σ.set i none) else none
def Opd.v : Opd → PV
  | .val v => v
  | .own v => v
  | .bor _ => .non
def forces (cl : Nat → Cls) : List Opd → PS → Option (List PV × PS)
  | [], σ => some ([], σ)
  | o :: os, σ => match force cl o σ with
    | some (o', σ1) => match forces cl os σ1 with
      | some (vs, σ2) => some (o'.v :: vs, σ2)
      | none => none
    | none => none
def lockO (o : Opd) (σ : PS) : Option (PV × PS) := match o with
  | .val v => some (v, σ)
  | .own v => some (v, σ)
  | .bor i => (rdV σ i).map fun v => (v, σ.set i (some .lck))
def unlockO (o : Opd) (v : PV) (σ : PS) : PS := match o with
  | .bor i => σ.set i (some v)
  | _ => σ
mutual
def asgP (cl : Nat → Cls) : MT → PV → PS → Option PS
  | .nm i, v, σ => match cl i with
    | .sh => some (σ.set i (some v))
    | .ow => if isLD v then none else match σ[i]? with
      | some (some .lck) => none
      | _ => some (σ.set i (some v))
    | _ => none
  | .tp ts, .tup xs, σ => if xs.length = ts.length then asgPs cl ts xs σ else none
  | .tp _, _, _ => none
def asgPs (cl : Nat → Cls) : List MT → List PV → PS → Option PS
  | [], _, σ => some σ
  | t :: ts, x :: xs, σ => (asgP cl t x σ).bind fun σ => asgPs cl ts xs σ
  | _ :: _, [], _ => none
end
/-- a name, or names, given what an expression came to -/
def asgO (cl : Nat → Cls) (t : MT) (o : Opd) (σ : PS) : Option PS := match t, o with
  | .nm i, .own v => match cl i with
    | .sh => some (σ.set i (some v))
    | .ow => match σ[i]? with
      | some (some .lck) => none
      | _ => some (σ.set i (some v))
    | _ => none
  | t, .val v => asgP cl t v σ
  | _, _ => none
def asgF (cl : Nat → Cls) (t : MT) (o : Opd) (σ : PS) : Option PS := match force cl o σ with
  | some (o, σ) => asgO cl t o σ
  | none => none
def forceQ (cl : Nat → Cls) (o : Opd) (σ : PS) : Q PV := match force cl o σ with
  | some (o, σ) => .ok o.v σ
  | none => .bad
/-! ### calls -/
/-- the arguments' values; what is taken as a value is taken out -/
def argsP (cl : Nat → Cls) : List PK → List Opd → PS → Option (List PV × PS)
  | [], [], σ => some ([], σ)
  | k :: ks, o :: os, σ => match k, o with
    | .pl, o => match force cl o σ with
      | some (o', σ1) => (argsP cl ks os σ1).map fun p => (o'.v :: p.1, p.2)
      | none => none
    | .io, .bor i => if cl i = .ow ∨ cl i = .io then match rdV σ i with
        | some v => (argsP cl ks os (σ.set i (some .lck))).map fun p => (v :: p.1, p.2)
        | none => none
      else none
    | .io, _ => none
    | .br, .bor i => match rdV σ i with
      | some v => if (cl i ≠ .ow ∧ cl i ≠ .io) ∨ isLD v = true then (argsP cl ks os (σ.set i (some .lck))).map fun p => (v :: p.1, p.2) else none
      | none => none
    | .br, o => (argsP cl ks os σ).map fun p => (o.v :: p.1, p.2)
  | _, _, _ => none
/-- the variables behind the call -/
def backP : List PK → List Opd → List PV → PS → PS
  | .pl :: ks, _ :: os, _ :: vs, σ => backP ks os vs σ
  | _ :: ks, .bor i :: os, v :: vs, σ => (backP ks os vs σ).set i (some v)
  | _ :: ks, _ :: os, _ :: vs, σ => backP ks os vs σ
  | _, _, _, σ => σ
/-! ### the evaluator -/
inductive FlP where
  | nx | ret (o : Opd) | brk | cont
def oO {α : Type} (o : Option α) (σ : PS) : Q α := match o with
  | some a => .ok a σ
  | none => .bad
def oB (o : Option Bool) (σ : PS) : Q Opd := match o with
  | some b => .ok (.val (.bl b)) σ
  | none => .bad
def oV (o : Option PV) (σ : PS) : Q Opd := match o with
  | some b => .ok (.val b) σ
  | none => .bad
/-- of what one operand is worth -/
def on1 {α : Type} (σ : PS) (o : Opd) (f : PV → Option α) : Option α := match lookO σ o with
  | some x => f x
  | none => none
def on2 {α : Type} (σ : PS) (o p : Opd) (f : PV → PV → Option α) : Option α := match lookO σ o, lookO σ p with
  | some x, some y => f x y
  | _, _ => none
def intO (σ : PS) (o : Opd) : Option Int := match lookO σ o with
  | some (.int i) => some i
  | _ => none
def wipeP (σ : PS) : List Nat → PS
  | [] => σ
  | v :: vs => (wipeP σ vs).set v none
def lcOk (cl : Nat → Cls) (tg : MT) (own : List Nat) : Bool := tg.slots.all (fun i => own.contains i) && own.all fun i => decide (cl i = .sh)
def compP (step : PV → PS → Q (Option PV)) : List PV → PS → Q (List PV)
  | [], σ => .ok [] σ
  | v :: vs, σ => (step v σ).bind fun o σ => (compP step vs σ).bind fun ys σ => .ok (o.toList ++ ys) σ
def forP (step : PV → PS → Q FlP) : List PV → PS → Q FlP
  | [], σ => .ok .nx σ
  | v :: vs, σ => (step v σ).bind fun
    | .nx, σ => forP step vs σ
    | .cont, σ => forP step vs σ
    | .brk, σ => .ok .nx σ
    | .ret o, σ => .ok (.ret o) σ
def whlP (test : PS → Q Opd) (step : PS → Q FlP) : Nat → PS → Q FlP
  | 0, _ => .bad
  | n + 1, σ => (test σ).bind fun o σ => match on1 σ o truthP with
    | some true => (step σ).bind fun
      | .nx, σ => whlP test step n σ
      | .cont, σ => whlP test step n σ
      | .brk, σ => .ok .nx σ
      | .ret o, σ => .ok (.ret o) σ
    | some false => .ok .nx σ
    | none => .bad
/-- own slots as they were -/
def restP (σ0 : PS) : List Nat → PS → PS
  | [], σ => σ
  | v :: vs, σ => (restP σ0 vs σ).set v (σ0[v]?).join
def lcStepP (a : Option PS) (ts : PS → Q Bool) (el : PS → Q PV) : Q (Option PV) := match a with
  | some σ => (ts σ).bind fun
    | true, σ => (el σ).bind fun y σ => .ok (some y) σ
    | false, σ => .ok none σ
  | none => .bad
def compQ (cl : Nat → Cls) (tg : MT) (own : List Nat) (ts : PS → Q Bool) (el : PS → Q PV) (xs : List PV) (σ0 : PS) : Q (List PV) :=
  (compP (fun v σ => lcStepP (asgP cl tg v (wipeP σ own)) ts el) xs σ0).bind fun vs σ => .ok vs (restP σ0 own σ)
def forStepP (a : Option PS) (b : PS → Q FlP) : Q FlP := match a with
  | some σ => b σ
  | none => .bad
/-- what a loop walks, its variables shut meanwhile -/
def srcP (ik : IK) (oa ob : Opd) (σ : PS) : Option (PV × PV × List PV × PS) := match lockO oa σ with
  | some (x, σ1) => match lockO ob σ1 with
    | some (y, σ2) => (itP ik x y).map fun xs => (x, y, xs, σ2)
    | none => none
  | none => none
def callP (X : CQ) (f : Str) (os : List Opd) (σ : PS) : Q Opd := match X.sig f with
  | some (pk, _) => match argsP X.cl pk os σ with
    | some (vs, σ1) => match X.call f vs with
      | .ok o ios => .ok o (backP pk os ios σ1)
      | .exc c fs ios => .exc c fs (backP pk os ios σ1)
      | .bad => .bad
    | none => .bad
  | none => .bad
def canP (cl : Nat → Cls) (i : Nat) : Bool := match cl i with
  | .ow => true
  | .io => true
  | _ => false
def methO (cl : Nat → Cls) (m : Me) (kd : Kd) (ob : Opd) (os : List Opd) (σ : PS) : Q Opd := match forces cl os σ with
  | some (vs, σ1) => if m.reads then (match lookO σ1 ob with
      | some x => if kdP x = some kd then oO (readP m x vs) σ1 else .bad
      | none => .bad)
    else match ob with
    | .bor i => if canP cl i then (match rdV σ1 i with
        | some x => if kdP x = some kd then (match methP m x vs with
          | some (y, x') => .ok (.val y) (σ1.set i (some x'))
          | none => .bad) else .bad
        | none => .bad) else .bad
    | _ => .bad
  | none => .bad
mutual
def evP (X : CQ) : ME → PS → Q Opd
  | .c v, σ => if noRef v then .ok (.val (emb v)) σ else .bad
  | .var i, σ => match rdV σ i with
    | some v => if X.cl i = .sh then .ok (.val v) σ else .ok (.bor i) σ
    | none => .bad
  | .glb x, σ => match X.gl x with
    | some v => if noRef v then .ok (.val (emb v)) σ else .bad
    | none => .bad
  | .tup es, σ => (evPs X es σ).bind fun os σ => match forces X.cl os σ with
    | some (vs, σ) => .ok (.val (.tup vs)) σ
    | none => .bad
  | .lst es, σ => (evPs X es σ).bind fun os σ => match forces X.cl os σ with
    | some (vs, σ) => .ok (.own (.lst vs)) σ
    | none => .bad
  | .bin op a b, σ => (evP X a σ).bind fun o σ => (evP X b σ).bind fun p σ => oO (on2 σ o p (binP op)) σ
  | .neg a, σ => (evP X a σ).bind fun o σ => match intO σ o with
    | some i => .ok (.val (.int (-i))) σ
    | none => .bad
  | .not_ a, σ => (evP X a σ).bind fun o σ => oB ((on1 σ o truthP).map (!·)) σ
  | .cmp op a b, σ => (evP X a σ).bind fun o σ => (evP X b σ).bind fun p σ => oB (on2 σ o p (cmpP op)) σ
  | .chain o1 o2 a b c, σ => (evP X a σ).bind fun o σ => (evP X b σ).bind fun p σ => match on2 σ o p (cmpP o1) with
    | some true => (evP X c σ).bind fun q σ => oB (on2 σ p q (cmpP o2)) σ
    | some false => .ok (.val (.bl false)) σ
    | none => .bad
  | .and_ a b, σ => (evP X a σ).bind fun o σ => match on1 σ o truthP with
    | some true => evP X b σ
    | some false => .ok o σ
    | none => .bad
  | .or_ a b, σ => (evP X a σ).bind fun o σ => match on1 σ o truthP with
    | some true => .ok o σ
    | some false => evP X b σ
    | none => .bad
  | .ife t a b, σ => (evP X t σ).bind fun o σ => match on1 σ o truthP with
    | some true => evP X a σ
    | some false => evP X b σ
    | none => .bad
  | .ix a b, σ => (evP X a σ).bind fun o σ => (evP X b σ).bind fun p σ => oV (on2 σ o p ixP) σ
  | .sl a, σ => (evP X a σ).bind fun o σ => oO (on1 σ o fun x => slP x none none) σ
  | .slL a lo, σ => (evP X a σ).bind fun o σ => (evP X lo σ).bind fun p σ => match intO σ p with
    | some i => oO (on1 σ o fun x => slP x (some i) none) σ
    | none => .bad
  | .slH a hi, σ => (evP X a σ).bind fun o σ => (evP X hi σ).bind fun p σ => match intO σ p with
    | some i => oO (on1 σ o fun x => slP x none (some i)) σ
    | none => .bad
  | .slB a lo hi, σ => (evP X a σ).bind fun o σ => (evP X lo σ).bind fun p σ => match intO σ p with
    | some i => (evP X hi σ).bind fun q σ => match intO σ q with
      | some j => oO (on1 σ o fun x => slP x (some i) (some j)) σ
      | none => .bad
    | none => .bad
  | .rev a, σ => (evP X a σ).bind fun o σ => oO (on1 σ o revP) σ
  | .call f es, σ => (evPs X es σ).bind fun os σ => callP X f os σ
  | .blt b es, σ => (evPs X es σ).bind fun os σ => match looks σ os with
    | some vs => oO (bltP b vs) σ
    | none => .bad
  | .meth m o es, σ => (evP X o σ).bind fun ob σ => match on1 σ ob kdP with
    | some kd => (evPs X es σ).bind fun os σ => methO X.cl m kd ob os σ
    | none => .bad
  | .isi a t, σ => (evP X a σ).bind fun o σ => oB (on1 σ o fun x => isiP x t) σ
  | .dsp es, σ => (evPs X es σ).bind fun os σ => match forces X.cl os σ with
    | some (vs, σ) => match pairUpP vs with
      | some ps => .ok (.own (.dct (ps.foldl (fun acc kv => putKP kv.1 kv.2 acc) []))) σ
      | none => .bad
    | none => .bad
  | .rngL a b, σ => (evP X a σ).bind fun o σ => (evP X b σ).bind fun p σ => match on2 σ o p rngP with
    | some xs => .ok (.own (.lst xs)) σ
    | none => .bad
  | .rngT a b, σ => (evP X a σ).bind fun o σ => (evP X b σ).bind fun p σ => match on2 σ o p rngP with
    | some xs => .ok (.val (.tup xs)) σ
    | none => .bad
  | .lc elt tg ik a b ifs own, σ => (evP X a σ).bind fun oa σ => (evP X b σ).bind fun ob σ => match srcP ik oa ob σ with
    | some (x, y, xs, σ) => if lcOk X.cl tg own && decide (xs.length ≤ lineM) then
        (compQ X.cl tg own (fun σ => evPts X ifs σ) (fun σ => (evP X elt σ).bind fun o σ => forceQ X.cl o σ) xs σ).bind fun vs σ =>
          .ok (.own (.lst vs)) (unlockO oa x (unlockO ob y σ))
      else .bad
    | none => .bad
  | .srtS a, σ => (evP X a σ).bind fun o σ => oO (on1 σ o srtP) σ
  | .lenS a, σ => (evP X a σ).bind fun o σ => oO (on1 σ o lenP) σ
  | .callN f es, σ => (evPs X es σ).bind fun os σ => (callP X f os σ).bind fun o σ => match decO o with
    | some none => .ok o σ
    | _ => .bad
  | .isX k cs, σ => match X.at k with
    | some (c, _) => oB (isXM c cs) σ
    | none => .bad
  | .fldX k x, σ => match X.at k with
    | some (c, fs) => oV (fldXP c fs x) σ
    | none => .bad
  | .callE f k, σ => match X.at k with
    | some (c, fs) => match X.callE f c fs with
      | .ok o _ => .ok o σ
      | _ => .bad
    | none => .bad
def evPs (X : CQ) : List ME → PS → Q (List Opd)
  | [], σ => .ok [] σ
  | e :: es, σ => (evP X e σ).bind fun o σ => (evPs X es σ).bind fun os σ => .ok (o :: os) σ
def evPts (X : CQ) : List ME → PS → Q Bool
  | [], σ => .ok true σ
  | e :: es, σ => (evP X e σ).bind fun o σ => match on1 σ o truthP with
    | some true => evPts X es σ
    | some false => .ok false σ
    | none => .bad
end
def wipeKP (k : Option Nat) (σ : PS) : PS := match k with
  | some k => wipeP σ [k]
  | none => σ
def okKP (cl : Nat → Cls) (k : Option Nat) (σ : PS) : Bool := match k with
  | some k => decide (cl k = .sh) && decide (k < σ.length) && (match σ[k]? with
    | some (some .lck) => false
    | _ => true)
  | none => true
mutual
def evT (X : CQ) : MS → PS → Q FlP
  | .asg tg e, σ => (evP X e σ).bind fun o σ => match asgF X.cl tg o σ with
    | some σ => .ok .nx σ
    | none => .bad
  | .asgSub o i e, σ => (evP X e σ).bind fun oe σ => (evP X o σ).bind fun ob σ => (evP X i σ).bind fun oi σ => match force X.cl oe σ with
    | some (v, σ) => match ob, lookO σ oi with
      | .bor j, some y => if canP X.cl j then (match (rdV σ j).bind fun x => setV x y v.v with
        | some x' => .ok .nx (σ.set j (some x'))
        | none => .bad) else .bad
      | _, _ => .bad
    | none => .bad
  | .expr e, σ => (evP X e σ).bind fun _ σ => .ok .nx σ
  | .ret e, σ => (evP X e σ).bind fun o σ => match force X.cl o σ with
    | some (o, σ) => .ok (.ret o) σ
    | none => .bad
  | .retN, σ => .ok (.ret (.val .non)) σ
  | .ite t a b, σ => (evP X t σ).bind fun o σ => match on1 σ o truthP with
    | some true => evTs' X a σ
    | some false => evTs' X b σ
    | none => .bad
  | .for_ tg ik a b body, σ => (evP X a σ).bind fun oa σ => (evP X b σ).bind fun ob σ => match srcP ik oa ob σ with
    | some (x, y, xs, σ) => (forP (fun v σ => forStepP (asgP X.cl tg v σ) (fun σ => evTs' X body σ)) xs σ).bind fun fl σ =>
        .ok fl (unlockO oa x (unlockO ob y σ))
    | none => .bad
  | .whl t body, σ => whlP (fun σ => evP X t σ) (fun σ => evTs' X body σ) X.fuel σ
  | .pass, σ => .ok .nx σ
  | .brk, σ => .ok .brk σ
  | .cont, σ => .ok .cont σ
  | .retC e, σ => (evP X e σ).bind fun o σ => match force X.cl o σ with
    | some (o, σ) => match decO o with
      | some none => .ok (.ret o) σ
      | _ => .bad
    | none => .bad
  | .raise c es, σ => (evPs X es σ).bind fun os σ => match forces X.cl os σ with
    | some (vs, σ) => if raisableP c vs then .ok (.ret (.val (encXP c vs))) σ else .bad
    | none => .bad
  | .asgX tg f es, σ => (evP X (.call f es) σ).bind fun o σ => match decO o with
    | some (some (c, fs)) => .ok (.ret (.val (encXP c fs))) σ
    | some none => (match asgF X.cl tg o σ with
      | some σ => .ok .nx σ
      | none => .bad)
    | none => .bad
  | .exprX f es, σ => (evP X (.call f es) σ).bind fun o σ => match decO o with
    | some (some (c, fs)) => .ok (.ret (.val (encXP c fs))) σ
    | some none => .ok .nx σ
    | none => .bad
  | .retX f es, σ => (evP X (.call f es) σ).bind fun o σ => match force X.cl o σ with
    | some (o, σ) => .ok (.ret o) σ
    | none => .bad
  | .tryC w tg f es c k hd, σ => (evP X (.call f es) σ).bind fun o σ => match decO o with
    | some (some (c', fs)) => if isXM c' [c] = some true ∧ okKP X.cl k σ = true then (evTs' (X.with k c' fs) hd (wipeKP k σ)).bind fun fl σ => if okKP X.cl k σ = true then .ok fl (wipeKP k σ) else .bad else .bad
    | none => .bad
    | some none => match wrapP w o with
      | some (some o) => (match asgF X.cl tg o σ with
        | some σ => .ok .nx σ
        | none => .bad)
      | some none => .ok .nx σ
      | none => .bad
def evTs' (X : CQ) : List MS → PS → Q FlP
  | [], σ => .ok .nx σ
  | s :: ss, σ => (evT X s σ).bind fun
    | .nx, σ => evTs' X ss σ
    | f, σ => .ok f σ
end
/-! ### functions -/
structure FP where
  np : Nat
  nl : Nat
  body : List MS
  cs : List Cls
  pk : List PK
  fr : Bool
def FP.cl (f : FP) (i : Nat) : Cls := (f.cs[i]?).getD .sh
def PK.cls : PK → Cls
  | .pl => .sh
  | .io => .io
  | .br => .br
def okC : List PK → List Cls → Bool
  | [], _ => true
  | k :: ks, c :: cs => decide (c = k.cls) && okC ks cs
  | _ :: _, [] => false
def okB : List Cls → Bool
  | [] => true
  | c :: cs => decide (c ≠ .bf) && okB cs
def FP.good (f : FP) : Bool := decide (f.pk.length = f.np) && decide (f.np ≤ f.nl) && okC f.pk f.cs && okB f.cs
/-- what the parameters hold behind the call -/
def outsP : List PK → List PV → PS → Option (List PV)
  | [], [], _ => some []
  | .pl :: ks, v :: vs, _ :: σ => (outsP ks vs σ).map (v :: ·)
  | _ :: ks, _ :: vs, some v :: σ => if isLk v then none else (outsP ks vs σ).map (v :: ·)
  | _, _, _ => none
def exitP (f : FP) (vs : List PV) (o : Opd) (σ : PS) : CR := match outsP f.pk vs σ with
  | some ios => if f.fr then (match o with
      | .own v => .ok (.own v) ios
      | .val v => if isLD v then .bad else .ok (.val v) ios
      | .bor _ => .bad)
    else .ok (.val o.v) ios
  | none => .bad
def finP (f : FP) (vs : List PV) (r : Q FlP) : CR := match r with
  | .ok (.ret o) σ => exitP f vs o σ
  | .ok .nx σ => exitP f vs (.val .non) σ
  | .exc c fs σ => match outsP f.pk vs σ with
    | some ios => .exc c fs ios
    | none => .bad
  | _ => .bad
def sigP (Γ : Str → Option FP) (f : Str) : Option (List PK × Bool) := (Γ f).map fun d => (d.pk, d.fr)
def runEP (Γ : Str → Option FP) (gl : Str → Option MV) (W : Nat) (f c : Str) (fs : List PV) : CR := match Γ f with
  | some fd => if 1 = fd.np then (match evTs' { call := fun _ _ => .bad, sig := fun _ => none, cl := fd.cl, gl := gl, fuel := W, ex := some (c, fs, 0) } fd.body (List.replicate fd.nl none) with
    | .ok (.ret (.val v)) _ => .ok (.val v) []
    | _ => .bad) else .bad
  | none => .bad
def runP (Γ : Str → Option FP) (gl : Str → Option MV) (W : Nat) : Nat → Str → List PV → CR
  | 0, _, _ => .bad
  | d + 1, f, vs => match Γ f with
    | some fd => if vs.length = fd.np ∧ fd.good = true then finP fd vs (evTs' { call := runP Γ gl W d, sig := sigP Γ, cl := fd.cl, gl := gl, fuel := W, callE := runEP Γ gl W } fd.body (vs.map some ++ List.replicate (fd.nl - fd.np) none)) else .bad
    | none => .bad
end Mn

set_option maxHeartbeats 1000000
/-! Pr: how trees stand for small values; stores; steps. -/
namespace Mn
open PySem L2

section
variable (N : Nat → Prop) (h : MH)
mutual
/-- m reads as v, and no place in N lies on the way -/
inductive Rd : MV → PV → Prop
  | non : Rd .non .non
  | bl (b : Bool) : Rd (.bl b) (.bl b)
  | int (i : Int) : Rd (.int i) (.int i)
  | str (s : Str) : Rd (.str s) (.str s)
  | tup {ms : List MV} {vs : List PV} : Rds ms vs → Rd (.tup ms) (.tup vs)
  | lst {a : Nat} {ms : List MV} {vs : List PV} : ¬ N a → h[a]? = some (.lst ms) → Rds ms vs → Rd (.ref a) (.lst vs)
  | fro {a : Nat} {ms : List MV} {vs : List PV} : ¬ N a → h[a]? = some (.fro ms) → Rds ms vs → Rd (.ref a) (.fro vs)
  | dct {a : Nat} {ks : List (Key × MV)} {kvs : List (Key × PV)} : ¬ N a → h[a]? = some (.dct ks) → Rdk ks kvs → Rd (.ref a) (.dct kvs)
inductive Rds : List MV → List PV → Prop
  | nil : Rds [] []
  | cons {m : MV} {v : PV} {ms : List MV} {vs : List PV} : Rd m v → Rds ms vs → Rds (m :: ms) (v :: vs)
inductive Rdk : List (Key × MV) → List (Key × PV) → Prop
  | nil : Rdk [] []
  | cons {k : Key} {m : MV} {v : PV} {ks : List (Key × MV)} {kvs : List (Key × PV)} : Rd m v → Rdk ks kvs → Rdk ((k, m) :: ks) ((k, v) :: kvs)
end
/-- the object at a place reads as v within -/
inductive Rt (a : Nat) : PV → Prop
  | lst {ms : List MV} {vs : List PV} : h[a]? = some (.lst ms) → Rds N h ms vs → Rt a (.lst vs)
  | dct {ks : List (Key × MV)} {kvs : List (Key × PV)} : h[a]? = some (.dct ks) → Rdk N h ks kvs → Rt a (.dct kvs)
/-- m reads as v, its own place apart -/
inductive Ct : MV → PV → Prop
  | rd {m : MV} {v : PV} : Rd N h m v → Ct m v
  | rt {a : Nat} {v : PV} : Rt N h a v → Ct (.ref a) v
end
section
variable {N N' : Nat → Prop} {h h' : MH}
mutual
theorem Rd.mono (q : ∀ a o, ¬ N a → h[a]? = some o → ¬ N' a ∧ h'[a]? = some o) : ∀ {m : MV} {v : PV}, Rd N h m v → Rd N' h' m v
  | _, _, .non => .non
  | _, _, .bl b => .bl b
  | _, _, .int i => .int i
  | _, _, .str s => .str s
  | _, _, .tup r => .tup (Rds.mono q r)
  | _, _, .lst n e r => .lst (q _ _ n e).1 (q _ _ n e).2 (Rds.mono q r)
  | _, _, .fro n e r => .fro (q _ _ n e).1 (q _ _ n e).2 (Rds.mono q r)
  | _, _, .dct n e r => .dct (q _ _ n e).1 (q _ _ n e).2 (Rdk.mono q r)
theorem Rds.mono (q : ∀ a o, ¬ N a → h[a]? = some o → ¬ N' a ∧ h'[a]? = some o) : ∀ {m : List MV} {v : List PV}, Rds N h m v → Rds N' h' m v
  | _, _, .nil => .nil
  | _, _, .cons a b => .cons (Rd.mono q a) (Rds.mono q b)
theorem Rdk.mono (q : ∀ a o, ¬ N a → h[a]? = some o → ¬ N' a ∧ h'[a]? = some o) : ∀ {m : List (Key × MV)} {v : List (Key × PV)}, Rdk N h m v → Rdk N' h' m v
  | _, _, .nil => .nil
  | _, _, .cons a b => .cons (Rd.mono q a) (Rdk.mono q b)
end
theorem Rt.mono (q : ∀ a o, ¬ N a → h[a]? = some o → ¬ N' a ∧ h'[a]? = some o) {a : Nat} {v : PV} (e : h'[a]? = h[a]?) (r : Rt N h a v) : Rt N' h' a v := by
  cases r with
  | lst e1 r => exact .lst (e.trans e1) (r.mono q)
  | dct e1 r => exact .dct (e.trans e1) (r.mono q)
theorem Rd.weak (q : ∀ a, N' a → N a) {m : MV} {v : PV} (r : Rd N h m v) : Rd N' h m v := r.mono fun a o n e => ⟨fun z => n (q a z), e⟩
theorem Rds.weak (q : ∀ a, N' a → N a) {m : List MV} {v : List PV} (r : Rds N h m v) : Rds N' h m v := r.mono fun a o n e => ⟨fun z => n (q a z), e⟩
theorem Rdk.weak (q : ∀ a, N' a → N a) {m : List (Key × MV)} {v : List (Key × PV)} (r : Rdk N h m v) : Rdk N' h m v := r.mono fun a o n e => ⟨fun z => n (q a z), e⟩
theorem Rt.weak (q : ∀ a, N' a → N a) {a : Nat} {v : PV} (r : Rt N h a v) : Rt N' h a v := r.mono (fun a o n e => ⟨fun z => n (q a z), e⟩) rfl
theorem Ct.weak (q : ∀ a, N' a → N a) {m : MV} {v : PV} (r : Ct N h m v) : Ct N' h m v := by
  cases r with
  | rd r => exact .rd (r.weak q)
  | rt r => exact .rt (r.weak q)
theorem Rt.frz {a : Nat} {v : PV} (r : Rt N h a v) (n : ¬ N a) : Rd N h (.ref a) v := by
  cases r with
  | lst e r => exact .lst n e r
  | dct e r => exact .dct n e r
theorem Rt.lt {a : Nat} {v : PV} (r : Rt N h a v) : a < h.length := by
  cases r with
  | lst e r => exact (List.getElem?_eq_some_iff.mp e).1
  | dct e r => exact (List.getElem?_eq_some_iff.mp e).1
theorem Rt.ld {a : Nat} {v : PV} (r : Rt N h a v) : isLD v = true := by cases r <;> rfl
theorem Rt.nlk {a : Nat} {v : PV} (r : Rt N h a v) : isLk v = false := by cases r <;> rfl
theorem Rd.nlk {m : MV} {v : PV} (r : Rd N h m v) : isLk v = false := by cases r <;> rfl
theorem Ct.nlk {m : MV} {v : PV} (r : Ct N h m v) : isLk v = false := by
  cases r with
  | rd r => exact r.nlk
  | rt r => exact r.nlk
/-! lists -/
theorem Rds.length {ms : List MV} {vs : List PV} (r : Rds N h ms vs) : ms.length = vs.length := by
  induction ms generalizing vs with
  | nil => cases r; rfl
  | cons m ms ih => cases r with | cons a b => simp [ih b]
theorem Rds.isEmpty {ms : List MV} {vs : List PV} (r : Rds N h ms vs) : ms.isEmpty = vs.isEmpty := by cases r <;> rfl
theorem Rds.get {ms : List MV} {vs : List PV} (r : Rds N h ms vs) {i : Nat} {v : PV} (e : vs[i]? = some v) : ∃ m, ms[i]? = some m ∧ Rd N h m v := by
  induction ms generalizing vs i with
  | nil => cases r; simp at e
  | cons m ms ih =>
    cases r with
    | cons a b =>
      cases i with
      | zero => simp at e; subst e; exact ⟨_, rfl, a⟩
      | succ i => simpa using ih b (by simpa using e)
theorem Rds.append {ms ns : List MV} {vs ws : List PV} (r : Rds N h ms vs) (s : Rds N h ns ws) : Rds N h (ms ++ ns) (vs ++ ws) := by
  induction ms generalizing vs with
  | nil => cases r; exact s
  | cons m ms ih => cases r with | cons a b => exact .cons a (ih b)
theorem Rds.take {ms : List MV} {vs : List PV} (r : Rds N h ms vs) (n : Nat) : Rds N h (ms.take n) (vs.take n) := by
  induction ms generalizing vs n with
  | nil => cases r; simp; exact .nil
  | cons m ms ih =>
    cases r with
    | cons a b =>
      cases n with
      | zero => exact .nil
      | succ n => exact .cons a (ih b n)
theorem Rds.drop {ms : List MV} {vs : List PV} (r : Rds N h ms vs) (n : Nat) : Rds N h (ms.drop n) (vs.drop n) := by
  induction ms generalizing vs n with
  | nil => cases r; simp; exact .nil
  | cons m ms ih =>
    cases r with
    | cons a b =>
      cases n with
      | zero => exact .cons a b
      | succ n => exact ih b n
theorem Rds.reverse {ms : List MV} {vs : List PV} (r : Rds N h ms vs) : Rds N h ms.reverse vs.reverse := by
  induction ms generalizing vs with
  | nil => cases r; exact .nil
  | cons m ms ih => cases r with | cons a b => simp only [List.reverse_cons]; exact (ih b).append (.cons a .nil)
theorem Rds.set {ms : List MV} {vs : List PV} (r : Rds N h ms vs) {m : MV} {v : PV} (x : Rd N h m v) (i : Nat) : Rds N h (ms.set i m) (vs.set i v) := by
  induction ms generalizing vs i with
  | nil => cases r; exact .nil
  | cons y ms ih =>
    cases r with
    | cons a b =>
      cases i with
      | zero => exact .cons x b
      | succ i => exact .cons a (ih b i)
theorem Rds.eraseIdx {ms : List MV} {vs : List PV} (r : Rds N h ms vs) (i : Nat) : Rds N h (ms.eraseIdx i) (vs.eraseIdx i) := by
  induction ms generalizing vs i with
  | nil => cases r; exact .nil
  | cons y ms ih =>
    cases r with
    | cons a b =>
      cases i with
      | zero => exact b
      | succ i => exact .cons a (ih b i)
theorem Rds.dropLast {ms : List MV} {vs : List PV} (r : Rds N h ms vs) : Rds N h ms.dropLast vs.dropLast := by
  rw [List.dropLast_eq_take, List.dropLast_eq_take, r.length]; exact r.take _
theorem Rds.rep {ms : List MV} {vs : List PV} (r : Rds N h ms vs) (k : Nat) : Rds N h (List.replicate k ms).flatten (List.replicate k vs).flatten := by
  induction k with
  | zero => exact .nil
  | succ k ih => simp only [List.replicate_succ, List.flatten_cons]; exact r.append ih
theorem Rds.cut {ms : List MV} {vs : List PV} (r : Rds N h ms vs) (lo hi : Option Int) : Rds N h (cutM ms lo hi) (cutP vs lo hi) := by
  unfold cutM cutP
  rw [r.length]
  exact (r.drop _).take _
theorem Rds.ints : ∀ (is : List Int), Rds N h (is.map .int) (is.map .int)
  | [] => .nil
  | i :: is => .cons (.int i) (Rds.ints is)
theorem Rds.rng (lo : Int) (n : Nat) : Rds N h (rngI lo n) (rngIP lo n) := by
  unfold rngI rngIP
  generalize List.range n = l
  induction l with
  | nil => exact .nil
  | cons x l ih => exact .cons (.int _) ih
theorem Rds.enumFrom {ms : List MV} {vs : List PV} (r : Rds N h ms vs) (f : Nat → Int) : Rds N h (ms.mapIdx fun i x => .tup [.int (f i), x]) (vs.mapIdx fun i x => .tup [.int (f i), x]) := by
  induction ms generalizing vs f with
  | nil => cases r; exact .nil
  | cons m ms ih =>
    cases r with
    | cons a b =>
      simp only [List.mapIdx_cons]
      exact .cons (.tup (.cons (.int _) (.cons a .nil))) (ih b fun i => f (i + 1))
theorem Rds.enum {ms : List MV} {vs : List PV} (r : Rds N h ms vs) : Rds N h (enumI ms) (enumP vs) := r.enumFrom fun i => (i : Int)
theorem Rds.zip {ms ns : List MV} {vs ws : List PV} (r : Rds N h ms vs) (s : Rds N h ns ws) : Rds N h (zipI ms ns) (zipP vs ws) := by
  unfold zipI zipP
  induction ms generalizing vs ns ws with
  | nil => cases r; exact .nil
  | cons m ms ih =>
    cases r with
    | cons a b =>
      cases s with
      | nil => exact .nil
      | cons c d => exact .cons (.tup (.cons a (.cons c .nil))) (ih b d)
theorem Rds.allInts {ms : List MV} {vs : List PV} (r : Rds N h ms vs) : Mn.allInts ms = allIntsP vs := by
  induction ms generalizing vs with
  | nil => cases r; rfl
  | cons m ms ih => cases r with | cons a b => cases a <;> simp [Mn.allInts, allIntsP, ih b]
theorem Rds.allBls {ms : List MV} {vs : List PV} (r : Rds N h ms vs) : Mn.allBls ms = allBlsP vs := by
  induction ms generalizing vs with
  | nil => cases r; rfl
  | cons m ms ih => cases r with | cons a b => cases a <;> simp [Mn.allBls, allBlsP, ih b]
mutual
theorem Rd.emb : ∀ {v : MV}, noRef v = true → Rd N h v (emb v)
  | .non, _ => .non
  | .bl b, _ => .bl b
  | .int i, _ => .int i
  | .str s, _ => .str s
  | .tup xs, q => .tup (Rds.embs (by simpa [noRef] using q))
  | .ref a, q => by simp [noRef] at q
theorem Rds.embs : ∀ {v : List MV}, noRefs v = true → Rds N h v (embs v)
  | [], _ => .nil
  | x :: xs, q => by
    simp only [noRefs, Bool.and_eq_true] at q
    exact .cons (Rd.emb q.1) (Rds.embs q.2)
end
/-! dicts -/
theorem Rdk.length {ms : List (Key × MV)} {vs : List (Key × PV)} (r : Rdk N h ms vs) : ms.length = vs.length := by
  induction ms generalizing vs with
  | nil => cases r; rfl
  | cons m ms ih => cases r with | cons a b => simp [ih b]
theorem Rdk.isEmpty {ms : List (Key × MV)} {vs : List (Key × PV)} (r : Rdk N h ms vs) : ms.isEmpty = vs.isEmpty := by cases r <;> rfl
theorem Rdk.intKeys {ms : List (Key × MV)} {vs : List (Key × PV)} (r : Rdk N h ms vs) : Mn.intKeys ms = Mn.intKeys vs := by
  induction ms generalizing vs with
  | nil => cases r; rfl
  | cons m ms ih =>
    cases r with
    | @cons k m v _ vs a b => cases k <;> simp [Mn.intKeys, ih b]
theorem Rdk.getK {ms : List (Key × MV)} {vs : List (Key × PV)} (r : Rdk N h ms vs) (k : Key) : (∀ v, getKP k vs = some v → ∃ m, Mn.getK k ms = some m ∧ Rd N h m v) ∧ (getKP k vs = none → Mn.getK k ms = none) := by
  induction ms generalizing vs with
  | nil => cases r; simp [getKP, Mn.getK]
  | cons m ms ih =>
    cases r with
    | @cons k2 m2 v2 _ vs2 a b =>
      by_cases q : k2 = k
      · simp [getKP, Mn.getK, q, a]
      · have := ih b
        simp only [getKP, Mn.getK] at this ⊢
        simp only [List.find?_cons, q, decide_false]
        exact this
theorem Rdk.any {ms : List (Key × MV)} {vs : List (Key × PV)} (r : Rdk N h ms vs) (k : Key) : (ms.any fun kv => decide (kv.1 = k)) = vs.any fun kv => decide (kv.1 = k) := by
  induction ms generalizing vs with
  | nil => cases r; rfl
  | cons m ms ih => cases r with | cons a b => simp [ih b]
theorem Rdk.append {ms ns : List (Key × MV)} {vs ws : List (Key × PV)} (r : Rdk N h ms vs) (s : Rdk N h ns ws) : Rdk N h (ms ++ ns) (vs ++ ws) := by
  induction ms generalizing vs with
  | nil => cases r; exact s
  | cons m ms ih => cases r with | cons a b => exact .cons a (ih b)
theorem Rdk.putK {ms : List (Key × MV)} {vs : List (Key × PV)} (r : Rdk N h ms vs) (k : Key) {m : MV} {v : PV} (x : Rd N h m v) : Rdk N h (Mn.putK k m ms) (putKP k v vs) := by
  unfold Mn.putK putKP
  rw [r.any]
  split
  · have go : ∀ {ms : List (Key × MV)} {vs : List (Key × PV)}, Rdk N h ms vs → Rdk N h (ms.map fun kv => if kv.1 = k then (kv.1, m) else kv) (vs.map fun kv => if kv.1 = k then (kv.1, v) else kv) := by
      intro ms
      induction ms with
      | nil => intro vs r; cases r; exact .nil
      | cons m ms ih =>
        intro vs r
        cases r with
        | cons a b =>
          simp only [List.map_cons]
          split
          · exact .cons x (ih b)
          · exact .cons a (ih b)
    exact go r
  · exact r.append (.cons x .nil)
theorem keyOf_eq {m : MV} {v : PV} (r : Rd N h m v) : keyOf m = keyOfP v := by cases r <;> rfl
theorem Rds.pairUp : ∀ {ms : List MV} {vs : List PV}, Rds N h ms vs → (∀ ps, pairUpP vs = some ps → ∃ qs, Mn.pairUp ms = some qs ∧ Rdk N h qs ps)
  | _, _, .nil, ps, e => by simp [pairUpP] at e; subst e; exact ⟨[], rfl, .nil⟩
  | _, _, .cons a .nil, ps, e => by simp [pairUpP] at e
  | _, _, .cons a (.cons b r), ps, e => by
    simp only [pairUpP] at e
    split at e
    · rename_i k ps2 e1 e2
      cases e
      obtain ⟨qs, f1, f2⟩ := Rds.pairUp r ps2 e2
      refine ⟨_, ?_, .cons b f2⟩
      simp only [Mn.pairUp, keyOf_eq a, e1, f1]
    · cases e
theorem Rdk.fold {ps : List (Key × MV)} {qs : List (Key × PV)} (r : Rdk N h ps qs) {ms : List (Key × MV)} {vs : List (Key × PV)} (s : Rdk N h ms vs) : Rdk N h (ps.foldl (fun acc kv => Mn.putK kv.1 kv.2 acc) ms) (qs.foldl (fun acc kv => putKP kv.1 kv.2 acc) vs) := by
  induction ps generalizing qs ms vs with
  | nil => cases r; exact s
  | cons p ps ih => cases r with | cons a b => exact ih b (s.putK _ a)
/-! trees -/
mutual
theorem Rd.dV : ∀ {m : MV} {v : PV}, Rd N h m v → ∀ n, Mn.dV (snapR h n) m = dP v n
  | _, _, .non, n => rfl
  | _, _, .bl _, n => rfl
  | _, _, .int _, n => rfl
  | _, _, .str _, n => rfl
  | _, _, .tup r, n => by simp only [Mn.dV, dP, Rds.dVs r n]
  | _, _, .lst _ e r, n => by
    cases n with
    | zero => simp [Mn.dV, snapR, dP]
    | succ n => simp only [Mn.dV, snapR, e, dP, Rds.dVs r n]
  | _, _, .fro _ e r, n => by
    cases n with
    | zero => simp [Mn.dV, snapR, dP]
    | succ n => simp only [Mn.dV, snapR, e, dP, Rds.dVs r n]
  | _, _, .dct _ e r, n => by
    cases n with
    | zero => simp [Mn.dV, snapR, dP]
    | succ n => simp only [Mn.dV, snapR, e, dP]
theorem Rds.dVs : ∀ {m : List MV} {v : List PV}, Rds N h m v → ∀ n, Mn.dVs (snapR h n) m = dPs v n
  | _, _, .nil, n => rfl
  | _, _, @Rds.cons _ _ _ v _ vs a b, n => by
    simp only [Mn.dVs, dPs, Rd.dV a n, Rds.dVs b n]
    all_goals (cases dP v n <;> cases dPs vs n <;> rfl)
end
theorem Ct.dV {m : MV} {v : PV} (r : Ct N h m v) (n : Nat) : Mn.dV (snapR h n) m = dP v n := by
  cases r with
  | rd r => exact r.dV n
  | rt r =>
    cases n with
    | zero => cases r <;> simp [Mn.dV, snapR, dP]
    | succ n =>
      cases r with
      | lst e r => simp only [Mn.dV, snapR, e, dP, r.dVs n]
      | dct e r => simp only [Mn.dV, snapR, e, dP]
theorem Ct.snap {m : MV} {v : PV} (r : Ct N h m v) : Mn.snap h m = dP v 6 := r.dV 6
theorem Rd.flat {m : MV} {v : PV} (r : Rd N h m v) : flatM m = flatP v := by cases r <;> rfl
theorem Ct.flat {m : MV} {v : PV} (r : Ct N h m v) : flatM m = flatP v := by
  cases r with
  | rd r => exact r.flat
  | rt r => cases r <;> rfl
theorem Rds.flat {ms : List MV} {vs : List PV} (r : Rds N h ms vs) : ms.all flatM = vs.all flatP := by
  induction ms generalizing vs with
  | nil => cases r; rfl
  | cons m ms ih => cases r with | cons a b => simp [ih b, a.flat]
theorem flat_snap {m : MV} {v : PV} (r : Ct N h m v) (f : flatM m = true) : Mn.snap [] m = dP v 0 := by
  cases r with
  | rd r => cases r <;> first | rfl | simp [flatM] at f
  | rt r => simp [flatM] at f
theorem eqF_eq {m n : MV} {v w : PV} (r : Ct N h m v) (s : Ct N h n w) (f : flatM m = true) (g : flatM n = true) : eqF m n = eqFP v w := by
  unfold eqF eqFP
  rw [flat_snap r f, flat_snap s g]
  all_goals rfl
theorem Rds.anyF {n : MV} {w : PV} (s : Ct N h n w) (g : flatM n = true) : ∀ {ms : List MV} {vs : List PV}, Rds N h ms vs → ms.all flatM = true → (ms.any fun z => eqF z n) = vs.any fun z => eqFP z w := by
  intro ms
  induction ms with
  | nil => intro vs r f; cases r; rfl
  | cons m ms ih =>
    intro vs r f
    cases r with
    | cons a b =>
      simp only [List.all_cons, Bool.and_eq_true] at f
      simp only [List.any_cons, ih b f.2, eqF_eq (.rd a) s f.1 g]
end
end Mn

set_option maxHeartbeats 1000000
/-! Po: what the operators tell of trees, they tell of small values. -/
namespace Mn
open PySem L2
section
variable {N : Nat → Prop} {h : MH} {m n : MV} {v w : PV}
theorem Ct.non (r : Ct N h m .non) : m = .non := by cases r with | rd r => cases r; rfl | rt r => cases r
theorem Ct.bl {b : Bool} (r : Ct N h m (.bl b)) : m = .bl b := by cases r with | rd r => cases r; rfl | rt r => cases r
theorem Ct.int {b : Int} (r : Ct N h m (.int b)) : m = .int b := by cases r with | rd r => cases r; rfl | rt r => cases r
theorem Ct.str {b : Str} (r : Ct N h m (.str b)) : m = .str b := by cases r with | rd r => cases r; rfl | rt r => cases r
theorem Ct.tup {vs : List PV} (r : Ct N h m (.tup vs)) : ∃ ms, m = .tup ms ∧ Rds N h ms vs := by
  cases r with
  | rd r => cases r with | tup r => exact ⟨_, rfl, r⟩
  | rt r => cases r
theorem Ct.lst {vs : List PV} (r : Ct N h m (.lst vs)) : ∃ a ms, m = .ref a ∧ h[a]? = some (.lst ms) ∧ Rds N h ms vs := by
  cases r with
  | rd r => cases r with | lst _ e r => exact ⟨_, _, rfl, e, r⟩
  | rt r => cases r with | lst e r => exact ⟨_, _, rfl, e, r⟩
theorem Ct.fro {vs : List PV} (r : Ct N h m (.fro vs)) : ∃ a ms, m = .ref a ∧ h[a]? = some (.fro ms) ∧ Rds N h ms vs := by
  cases r with
  | rd r => cases r with | fro _ e r => exact ⟨_, _, rfl, e, r⟩
  | rt r => cases r
theorem Ct.dct {vs : List (Key × PV)} (r : Ct N h m (.dct vs)) : ∃ a ms, m = .ref a ∧ h[a]? = some (.dct ms) ∧ Rdk N h ms vs := by
  cases r with
  | rd r => cases r with | dct _ e r => exact ⟨_, _, rfl, e, r⟩
  | rt r => cases r with | dct e r => exact ⟨_, _, rfl, e, r⟩
theorem Ct.lsts {vs : List PV} (r : Ct N h m v) (e : lstsP v = some vs) : ∃ a ms, m = .ref a ∧ Mn.lsts h a = some ms ∧ Rds N h ms vs := by
  cases v <;> simp only [lstsP] at e <;> try (cases e; done)
  · cases e
    obtain ⟨a, ms, rfl, e, r⟩ := r.lst
    exact ⟨a, ms, rfl, by unfold Mn.lsts; rw [e], r⟩
  · cases e
    obtain ⟨a, ms, rfl, e, r⟩ := r.fro
    exact ⟨a, ms, rfl, by unfold Mn.lsts; rw [e], r⟩
theorem Ct.seqs {vs : List PV} (r : Ct N h m v) (e : seqsP v = some vs) : ∃ ms, Mn.seqs h m = some ms ∧ Rds N h ms vs := by
  cases v <;> simp only [seqsP] at e
  case tup xs => cases e; obtain ⟨ms, rfl, q⟩ := r.tup; exact ⟨ms, rfl, q⟩
  all_goals
    obtain ⟨a, ms, rfl, e2, r2⟩ := r.lsts e
    exact ⟨ms, e2, r2⟩
theorem Ct.truth (r : Ct N h m v) {b : Bool} (e : truthP v = some b) : Mn.truth h m = some b := by
  cases v <;> simp only [truthP] at e <;> try (cases e; done)
  · cases r.non; exact e
  · cases r.bl; exact e
  · cases r.int; exact e
  · cases r.str; exact e
  · obtain ⟨ms, rfl, q⟩ := r.tup; simp only [Mn.truth, q.isEmpty]; exact e
  · obtain ⟨a, ms, rfl, e2, r⟩ := r.lst; simp only [Mn.truth, e2, r.isEmpty]; exact e
  · obtain ⟨a, ms, rfl, e2, r⟩ := r.fro; simp only [Mn.truth, e2, r.isEmpty]; exact e
  · obtain ⟨a, ms, rfl, e2, r⟩ := r.dct; simp only [Mn.truth, e2, r.isEmpty]; exact e
def OpOk (N : Nat → Prop) (h : MH) (o : Opd) (r : R MV) : Prop := match o with
  | .val v => ∃ m, r = .ok m h ∧ Rd N h m v
  | .own (.lst vs) => ∃ ms, r = newO (.lst ms) h ∧ Rds N h ms vs
  | .own (.dct vs) => ∃ ms, r = newO (.dct ms) h ∧ Rdk N h ms vs
  | _ => False
theorem bin_ok {op : Operator} {o : Opd} (r : Ct N h m v) (s : Ct N h n w) (e : binP op v w = some o) : OpOk N h o (binM op m n h) := by
  unfold binP at e
  split at e
  case h_3 => obtain ⟨ms, rfl, q⟩ := r.tup; obtain ⟨ns, rfl, p⟩ := s.tup; split at e <;> cases e; exact ⟨_, by simp only [binM]; rw [if_pos (by rw [q.length, p.length]; assumption)], .tup (q.append p)⟩
  case h_4 => 
    obtain ⟨a, ms, rfl, e1, r⟩ := r.lst; obtain ⟨b, ns, rfl, e2, s⟩ := s.lst
    split at e <;> cases e
    exact ⟨_, by simp only [binM, e1, e2]; rw [if_pos (by rw [r.length, s.length]; assumption)], r.append s⟩
  case h_7 =>
    obtain ⟨a, ms, rfl, e1, r⟩ := r.lst; cases s.int
    split at e <;> cases e
    exact ⟨_, by simp only [binM, e1]; rw [if_pos (by rw [r.length]; assumption)], r.rep _⟩
  case h_8 =>
    obtain ⟨ms, rfl, q⟩ := r.tup; cases s.int
    split at e
    · cases e
      rename_i c
      exact ⟨_, by simp only [binM]; rw [if_pos (by rw [q.length]; refine ⟨c.1, c.2.1, c.2.2.1, fun z => c.2.2.2 ?_⟩; subst z; cases q; rfl)], .tup (q.rep _)⟩
    · rename_i c0
      split at e
      · cases e
        rename_i c
        exact ⟨_, by simp only [binM]; rw [if_neg (by omega), if_pos c], .tup q⟩
      · cases e
  all_goals first
    | (cases r.bl; cases s.int; cases e; exact ⟨_, rfl, .int _⟩)
    | (cases r.str; cases s.int; split at e <;> cases e; exact ⟨_, by simp only [binM]; rw [if_pos (by assumption)], .str _⟩)
    | (cases r.int; cases s.int; first | (cases e; exact ⟨_, rfl, .int _⟩) | (split at e <;> cases e; exact ⟨_, by simp only [binM]; rw [if_pos (by assumption)], .int _⟩))
    | (cases r.str; cases s.str; split at e <;> cases e; exact ⟨_, by simp only [binM]; rw [if_pos (by assumption)], .str _⟩)
    | cases e
theorem Ct.strOf (r : Ct N h m v) : Mn.strOf m = strOfP v := by
  cases r with
  | rd r => cases r <;> rfl
  | rt r => cases r <;> rfl
theorem eq_ok (r : Ct N h m v) (s : Ct N h n w) : eqM h m n = eqP v w := by
  unfold eqM eqP eqD eqDP
  rw [r.strOf, s.strOf, r.snap, s.snap]
  all_goals (cases strOfP v <;> cases strOfP w <;> (try rfl) <;> (cases dP v 6 <;> cases dP w 6 <;> rfl))
theorem inL_ok {a : Nat} {ns : List MV} {ws : List PV} {b : Bool} (r : Ct N h m v) (e0 : Mn.lsts h a = some ns) (s : Rds N h ns ws) (e : inLP v ws = some b) :
    (if flatM m && ns.all flatM then some (ns.any fun z => eqF z m) else match snap h m, dVs (snapR h 5) ns with
        | some d, some ds => if shp d && shp (.list ds) then some (ds.any fun z => PyData.eqv z d) else none
        | _, _ => none) = some b := by
  unfold inLP at e
  rw [r.flat, s.flat]
  split at e
  · rename_i c
    rw [if_pos c]
    rw [Bool.and_eq_true] at c
    rw [s.anyF r (by rw [r.flat]; exact c.1) (by rw [s.flat]; exact c.2)]
    exact e
  · rename_i c
    rw [if_neg c, r.snap, s.dVs]
    revert e
    cases dP v 6 <;> cases dPs ws 5 <;> exact id
theorem in_ok {b : Bool} (r : Ct N h m v) (s : Ct N h n w) (e : inP v w = some b) : inM h m n = some b := by
  cases w <;> simp only [inP] at e
  case tup ws =>
    obtain ⟨ns, rfl, p⟩ := s.tup
    simp only [inM]
    split at e
    · rename_i c
      rw [Bool.and_eq_true] at c
      rw [r.flat, p.flat, c.1, c.2, p.anyF r (by rw [r.flat]; exact c.1) (by rw [p.flat]; exact c.2)]
      exact e
    · cases e
  case dct kvs =>
    obtain ⟨a, ks, rfl, e1, s⟩ := s.dct
    simp only [inM, e1]
    have hk : keyOf m = keyOfP v := by
      cases r with
      | rd r => exact keyOf_eq r
      | rt r => cases r <;> rfl
    rw [hk]
    cases q : keyOfP v with
    | none => rw [q] at e; cases e
    | some k =>
      rw [q] at e
      simp only [Option.map_some] at e ⊢
      rw [← e]
      congr 1
      obtain ⟨g1, g2⟩ := s.getK k
      cases z : getKP k kvs with
      | none => rw [g2 z]; rfl
      | some v => obtain ⟨m2, q1, _⟩ := g1 v z; rw [q1]; rfl
  case lst ws =>
    obtain ⟨a, ns, rfl, e1, s⟩ := s.lst
    have e0 : Mn.lsts h a = some ns := by unfold Mn.lsts; rw [e1]
    have := inL_ok r e0 s e
    simp only [inM, e1, e0]
    exact this
  case fro ws =>
    obtain ⟨a, ns, rfl, e1, s⟩ := s.fro
    have e0 : Mn.lsts h a = some ns := by unfold Mn.lsts; rw [e1]
    have := inL_ok r e0 s e
    simp only [inM, e1, e0]
    exact this
  case str z =>
    cases s.str
    cases v <;> simp only at e <;> try (cases e; done)
    cases r.str
    exact e
  all_goals cases e
theorem isNon_ok (r : Ct N h m v) : decide (m = .non) = isNon v := by
  cases r with
  | rd r => cases r <;> simp [isNon]
  | rt r => cases r <;> simp [isNon]
theorem cmp_ok {op : CmpOp} {b : Bool} (r : Ct N h m v) (s : Ct N h n w) (e : cmpP op v w = some b) : cmpM op m n h = some b := by
  cases op <;> simp only [cmpP] at e
  case Eq => simp only [cmpM, eq_ok r s]; exact e
  case NotEq => simp only [cmpM, eq_ok r s]; exact e
  case In => exact in_ok r s e
  case NotIn =>
    simp only [cmpM]
    cases q : inP v w with
    | none => rw [q] at e; cases e
    | some c => rw [in_ok r s q]; rw [q] at e; exact e
  case Is =>
    split at e
    · cases e; cases s.non; simp only [cmpM, isNon_ok r]
    · split at e
      · cases e; cases s.bl; cases r.bl; rfl
      · cases e
    · cases e
  case IsNot =>
    split at e
    · cases e; cases s.non; simp only [cmpM, isNon_ok r]
    · split at e
      · cases e; cases s.bl; cases r.bl; rfl
      · cases e
    · cases e
  all_goals
    split at e
    · cases r.int; cases s.int; exact e
    · cases e
theorem ix_ok {u : PV} (r : Ct N h m v) (s : Ct N h n w) (e : ixP v w = some u) : ∃ k, ixM m n h = .ok k h ∧ Rd N h k u := by
  have at_ok : ∀ {ms : List MV} {vs : List PV} {i : Int}, Rds N h ms vs → atI vs i = some u → ∃ k, atI ms i = some k ∧ Rd N h k u := by
    intro ms vs i q z
    unfold atI at z ⊢
    rw [q.length]
    cases y : ixN vs.length i with
    | none => rw [y] at z; cases z
    | some j => rw [y] at z; exact q.get z
  unfold ixP at e
  split at e
  · obtain ⟨ms, rfl, q⟩ := r.tup; cases s.int
    obtain ⟨k, e1, e2⟩ := at_ok q e
    exact ⟨k, by simp only [ixM, e1, ofO], e2⟩
  · obtain ⟨a, ms, rfl, e0, r⟩ := r.lst; cases s.int
    obtain ⟨k, e1, e2⟩ := at_ok r e
    exact ⟨k, by simp only [ixM, e0, Mn.lsts, e1, ofO], e2⟩
  · obtain ⟨a, ms, rfl, e0, r⟩ := r.fro; cases s.int
    obtain ⟨k, e1, e2⟩ := at_ok r e
    exact ⟨k, by simp only [ixM, e0, Mn.lsts, e1, ofO], e2⟩
  · obtain ⟨a, ks, rfl, e0, r⟩ := r.dct
    have hk : keyOf n = keyOfP w := by
      cases s with
      | rd s => exact keyOf_eq s
      | rt s => cases s <;> rfl
    cases q : keyOfP w with
    | none => rw [q] at e; cases e
    | some k =>
      rw [q] at e
      obtain ⟨k2, g1, g2⟩ := (r.getK k).1 _ e
      exact ⟨k2, by simp only [ixM, e0, hk, q, g1, ofO], g2⟩
  · cases r.str; cases s.int
    split at e
    · rename_i z i c
      cases q : atI z.cps.toList i with
      | none => rw [q] at e; cases e
      | some ch => rw [q] at e; cases e; exact ⟨_, by simp only [ixM, c, if_true, q, Option.map_some, ofO], .str _⟩
    · cases e
  · cases e
theorem sl_ok {lo hi : Option Int} {o : Opd} (r : Ct N h m v) (e : slP v lo hi = some o) : OpOk N h o (slM m lo hi h) := by
  unfold slP at e
  split at e
  · cases e; obtain ⟨ms, rfl, q⟩ := r.tup; exact ⟨_, rfl, .tup (q.cut lo hi)⟩
  · cases e; obtain ⟨a, ms, rfl, e0, r⟩ := r.lst; exact ⟨_, by simp only [slM, Mn.lsts, e0], r.cut lo hi⟩
  · cases e; obtain ⟨a, ms, rfl, e0, r⟩ := r.fro; exact ⟨_, by simp only [slM, Mn.lsts, e0], r.cut lo hi⟩
  · cases r.str
    split at e <;> cases e
    exact ⟨_, by simp only [slM]; rw [if_pos (by assumption)], .str _⟩
  · cases e
theorem rev_ok {o : Opd} (r : Ct N h m v) (e : revP v = some o) : OpOk N h o (revM m h) := by
  unfold revP at e
  split at e
  · cases e; obtain ⟨ms, rfl, q⟩ := r.tup; exact ⟨_, rfl, .tup q.reverse⟩
  · cases e; obtain ⟨a, ms, rfl, e0, r⟩ := r.lst; exact ⟨_, by simp only [revM, Mn.lsts, e0], r.reverse⟩
  · cases e; obtain ⟨a, ms, rfl, e0, r⟩ := r.fro; exact ⟨_, by simp only [revM, Mn.lsts, e0], r.reverse⟩
  · cases e
theorem isi_ok {t : Ty} {b : Bool} (r : Ct N h m v) (e : isiP v t = some b) : isiM m t h = some b := by
  cases v <;> simp only [isiP] at e <;> try (cases e; done)
  · cases r.non; exact e
  · cases r.bl; cases t <;> exact e
  · cases r.int; cases t <;> exact e
  · cases r.str; cases t <;> exact e
  · obtain ⟨ms, rfl, r⟩ := r.tup; cases t <;> exact e
  · obtain ⟨a, ms, rfl, e0, r⟩ := r.lst; simp only [isiM, e0]; exact e
  · obtain ⟨a, ms, rfl, e0, r⟩ := r.dct; simp only [isiM, e0]; exact e
inductive Cts (N : Nat → Prop) (h : MH) : List MV → List PV → Prop
  | nil : Cts N h [] []
  | cons {m : MV} {v : PV} {ms : List MV} {vs : List PV} : Ct N h m v → Cts N h ms vs → Cts N h (m :: ms) (v :: vs)
theorem Ct.num (r : Ct N h m v) {vs : List PV} (e : lstsP v = some vs) : ∃ a ms, m = .ref a ∧ Mn.lsts h a = some ms ∧ Mn.allInts ms = allIntsP vs ∧ Mn.allBls ms = allBlsP vs := by
  obtain ⟨a, ms, e1, e2, r⟩ := r.lsts e
  exact ⟨a, ms, e1, e2, r.allInts, r.allBls⟩
theorem blt_ok {b : Bi} {ms : List MV} {vs : List PV} {o : Opd} (r : Cts N h ms vs) (e : bltP b vs = some o) : OpOk N h o (bltM b ms h) := by
  have one : ∀ {v}, Cts N h ms [v] → ∃ m, ms = [m] ∧ Ct N h m v := fun {v} r => by cases r with | cons a b => cases b; exact ⟨_, rfl, a⟩
  have two : ∀ {v w}, Cts N h ms [v, w] → ∃ m n, ms = [m, n] ∧ Ct N h m v ∧ Ct N h n w := fun {v w} r => by cases r with | cons a b => cases b with | cons b c => cases c; exact ⟨_, _, rfl, a, b⟩
  have intsX : ∀ {v : PV} {α : Type} {g : List Int → α} {x : α}, ((lstsP v).bind allIntsP).map g = some x → ∀ {m}, Ct N h m v → ∃ a ns, m = .ref a ∧ (Mn.lsts h a).bind Mn.allInts = some ns ∧ x = g ns := by
    intro v α g x e m c
    cases q : lstsP v with
    | none => rw [q] at e; cases e
    | some xs =>
      rw [q] at e
      simp only [Option.bind_some] at e
      obtain ⟨a, ms, rfl, e2, e3, _⟩ := c.num q
      cases z : allIntsP xs with
      | none => rw [z] at e; cases e
      | some ns => rw [z] at e; cases e; exact ⟨a, ns, rfl, by rw [e2, Option.bind_some, e3, z], rfl⟩
  have bls : ∀ {v : PV} {α : Type} {g : List Bool → α} {x : α}, ((lstsP v).bind allBlsP).map g = some x → ∀ {m}, Ct N h m v → ∃ a ns, m = .ref a ∧ (Mn.lsts h a).bind Mn.allBls = some ns ∧ x = g ns := by
    intro v α g x e m c
    cases q : lstsP v with
    | none => rw [q] at e; cases e
    | some xs =>
      rw [q] at e
      simp only [Option.bind_some] at e
      obtain ⟨a, ms, rfl, e2, _, e3⟩ := c.num q
      cases z : allBlsP xs with
      | none => rw [z] at e; cases e
      | some ns => rw [z] at e; cases e; exact ⟨a, ns, rfl, by rw [e2, Option.bind_some, e3, z], rfl⟩
  unfold bltP at e
  split at e
  · obtain ⟨m, rfl, c⟩ := one r; cases c.str; split at e <;> cases e; exact ⟨_, by simp only [bltM]; rw [if_pos (by assumption)], .int _⟩
  · obtain ⟨m, rfl, c⟩ := one r; cases e; obtain ⟨ms, rfl, q⟩ := c.tup; exact ⟨_, by simp only [bltM, q.length], .int _⟩
  · obtain ⟨m, rfl, c⟩ := one r; cases e; obtain ⟨a, ms, rfl, e0, r⟩ := c.lst; exact ⟨_, by simp only [bltM, e0, r.length], .int _⟩
  · obtain ⟨m, rfl, c⟩ := one r; cases e; obtain ⟨a, ms, rfl, e0, r⟩ := c.fro; exact ⟨_, by simp only [bltM, e0, r.length], .int _⟩
  · obtain ⟨m, rfl, c⟩ := one r; cases e; obtain ⟨a, ms, rfl, e0, r⟩ := c.dct; exact ⟨_, by simp only [bltM, e0, r.length], .int _⟩
  · obtain ⟨m, rfl, c⟩ := one r; obtain ⟨a, ns, rfl, e0, rfl⟩ := intsX e c; exact ⟨_, by simp only [bltM, e0], .int _⟩
  · obtain ⟨m, rfl, c⟩ := one r; obtain ⟨a, ns, rfl, e0, rfl⟩ := bls e c; exact ⟨_, by simp only [bltM, e0], .bl _⟩
  · obtain ⟨m, rfl, c⟩ := one r; obtain ⟨a, ns, rfl, e0, rfl⟩ := bls e c; exact ⟨_, by simp only [bltM, e0], .bl _⟩
  · obtain ⟨m, rfl, c⟩ := one r
    rename_i v
    cases v <;> simp only [seqsP, lstsP, Option.map_some, Option.map_none] at e <;> cases e
    · obtain ⟨ms, rfl, q⟩ := c.tup; exact ⟨_, rfl, .tup q⟩
    · obtain ⟨a, ms, rfl, e0, r⟩ := c.lst; exact ⟨_, by simp only [bltM, Mn.lsts, e0], .tup r⟩
    · obtain ⟨a, ms, rfl, e0, r⟩ := c.fro; exact ⟨_, by simp only [bltM, Mn.lsts, e0], .tup r⟩
  · obtain ⟨m, rfl, c⟩ := one r
    rename_i v
    cases q : seqsP v with
    | none => rw [q] at e; cases e
    | some xs =>
      rw [q] at e; cases e
      obtain ⟨ms, e1, r⟩ := c.seqs q
      exact ⟨_, by simp only [bltM, e1], r⟩
  · obtain ⟨m, rfl, c⟩ := one r; cases c.int; cases e; exact ⟨_, rfl, .int _⟩
  · obtain ⟨m, rfl, c⟩ := one r; cases c.bl; cases e; exact ⟨_, rfl, .int _⟩
  · obtain ⟨m, rfl, c⟩ := one r; cases c.int; split at e <;> cases e; exact ⟨_, by simp only [bltM]; rw [if_pos (by assumption)], .str _⟩
  · obtain ⟨m, rfl, c⟩ := one r; cases c.str; cases e; exact ⟨_, rfl, .str _⟩
  · obtain ⟨m, rfl, c⟩ := one r; cases c.bl; cases e; exact ⟨_, rfl, .str _⟩
  · obtain ⟨m, rfl, c⟩ := one r
    rename_i v
    cases q : (dP v 6).bind reprD with
    | none => rw [q] at e; cases e
    | some s => rw [q] at e; cases e; exact ⟨_, by simp only [bltM, c.snap, q], .str _⟩
  · obtain ⟨m, rfl, c⟩ := one r; cases c.int; cases e; exact ⟨_, rfl, .int _⟩
  · obtain ⟨m, n, rfl, c, d⟩ := two r; cases c.int; cases d.int; cases e; exact ⟨_, rfl, .int _⟩
  · obtain ⟨m, n, rfl, c, d⟩ := two r; cases c.int; cases d.int; cases e; exact ⟨_, rfl, .int _⟩
  · obtain ⟨m, rfl, c⟩ := one r
    rename_i v
    split at e
    · rename_i n ns hq
      cases e
      cases q : seqsP v with
      | none => rw [q] at hq; cases hq
      | some xs =>
        rw [q] at hq
        obtain ⟨ms, e1, r⟩ := c.seqs q
        refine ⟨.int (PySem.W.maxOf n ns), ?_, .int _⟩
        have : (seqs h m).bind allInts = some (n :: ns) := by rw [e1]; exact r.allInts.trans hq
        simp only [bltM, this]
    · cases e
  · obtain ⟨m, rfl, c⟩ := one r
    rename_i v
    split at e
    · rename_i n ns hq
      cases e
      cases q : seqsP v with
      | none => rw [q] at hq; cases hq
      | some xs =>
        rw [q] at hq
        obtain ⟨ms, e1, r⟩ := c.seqs q
        refine ⟨.int (PySem.W.minOf n ns), ?_, .int _⟩
        have : (seqs h m).bind allInts = some (n :: ns) := by rw [e1]; exact r.allInts.trans hq
        simp only [bltM, this]
    · rename_i hq
      cases q : seqsP v with
      | none => rw [q] at e; cases e
      | some xs =>
        rw [q] at e
        rw [q] at hq
        simp only [Option.bind_some] at e hq
        obtain ⟨ms, e1, r⟩ := c.seqs q
        unfold minP at e
        split at e
        · rename_i ds hd
          split at e
          · rename_i ho
            cases hx : xs[minIx ds]? with
            | none => rw [hx] at e; cases e
            | some x =>
              rw [hx] at e
              cases e
              obtain ⟨m', e2, r2⟩ := r.get hx
              refine ⟨m', ?_, r2⟩
              have hi : (seqs h m).bind allInts = allIntsP xs := by rw [e1]; exact r.allInts
              have hd' : dVs (snapR h 5) ms = some ds := by rw [r.dVs]; exact hd
              simp only [bltM]
              rw [hi, e1]
              cases z : allIntsP xs with
              | none => simp only [minM, hd', ho, e2, if_true]
              | some ns =>
                cases ns with
                | nil => simp only [minM, hd', ho, e2, if_true]
                | cons n ns => exact absurd z (hq n ns)
          · cases e
        · cases e
  · obtain ⟨m, rfl, c⟩ := one r
    obtain ⟨a, ks, rfl, e0, r⟩ := c.dct
    split at e
    · rename_i ns hk
      split at e
      · rename_i h64
        cases e
        have : intKeys ks = some ns := by rw [r.intKeys]; exact hk
        refine ⟨_, ?_, Rds.ints _⟩
        simp only [bltM, e0, this]
        rw [if_pos h64]
      · cases e
    · cases e
  · obtain ⟨m, rfl, c⟩ := one r
    rename_i v _
    cases hl : seqsP v with
    | none => rw [hl] at e; cases e
    | some xs =>
      rw [hl] at e
      simp only [Option.bind_some] at e
      cases z : allIntsP xs with
      | none => rw [z] at e; cases e
      | some ns =>
        rw [z] at e; cases e
        by_cases ht : ∃ ys, v = .tup ys
        · obtain ⟨ys, rfl⟩ := ht
          simp only [seqsP, Option.some.injEq] at hl
          subst hl
          obtain ⟨ms, rfl, q⟩ := c.tup
          have hb : Mn.allInts ms = some ns := q.allInts.trans z
          exact ⟨_, by simp only [bltM, hb], Rds.ints _⟩
        · have hl' : lstsP v = some xs := by cases v <;> first | exact hl | exact absurd ⟨_, rfl⟩ ht
          obtain ⟨a, ms, rfl, e2, e3, _⟩ := c.num hl'
          have hb : (Mn.lsts h a).bind Mn.allInts = some ns := by rw [e2, Option.bind_some, e3, z]
          refine ⟨_, ?_, Rds.ints _⟩
          simp only [bltM, hb]
          split
          · rename_i kvs hd
            unfold Mn.lsts at e2; rw [hd] at e2; cases e2
          · rfl
  · cases e
theorem Ct.kd (r : Ct N h m v) {k : Kd} (e : kdP v = some k) : kdM h m = some k := by
  cases v <;> simp only [kdP] at e <;> try (cases e; done)
  · cases r.str; exact e
  · obtain ⟨ms, rfl, q⟩ := r.tup; exact e
  · obtain ⟨a, ms, rfl, e0, r⟩ := r.lst; simp only [kdM, e0]; exact e
  · obtain ⟨a, ms, rfl, e0, r⟩ := r.fro; simp only [kdM, e0]; exact e
  · obtain ⟨a, ms, rfl, e0, r⟩ := r.dct; simp only [kdM, e0]; exact e
theorem read_ok {k : Me} {kd : Kd} {ms : List MV} {vs : List PV} {o : Opd} (r : Ct N h m v) (hk : kdP v = some kd) (s : Rds N h ms vs) (e : readP k v vs = some o) : OpOk N h o (methM k kd m ms h) := by
  unfold readP at e
  split at e
  · rename_i kvs
    obtain ⟨a, ks, rfl, e0, r⟩ := r.dct
    simp only [kdP, Option.some.injEq] at hk
    subst hk
    split at e
    · cases s with
      | cons a1 b1 =>
        cases b1
        rename_i kv _
        cases q : keyOfP kv with
        | none => rw [q] at e; cases e
        | some k =>
          rw [q] at e; cases e
          obtain ⟨g1, g2⟩ := r.getK k
          have hk := (keyOf_eq a1).trans q
          refine ⟨(getK k ks).getD .non, by simp only [methM, e0, hk], ?_⟩
          cases z : getKP k kvs with
          | none => rw [g2 z]; exact .non
          | some u => obtain ⟨m2, q1, q2⟩ := g1 u z; rw [q1]; exact q2
    · cases s with
      | cons a1 b1 =>
        cases b1 with
        | cons a2 b2 =>
          cases b2
          rename_i kv dv _ _
          cases q : keyOfP kv with
          | none => rw [q] at e; cases e
          | some k =>
            rw [q] at e; cases e
            obtain ⟨g1, g2⟩ := r.getK k
            have hk := (keyOf_eq a1).trans q
            rename_i mv
            refine ⟨(getK k ks).getD mv, by simp only [methM, e0, hk], ?_⟩
            cases z : getKP k kvs with
            | none => rw [g2 z]; exact a2
            | some u => obtain ⟨m2, q1, q2⟩ := g1 u z; rw [q1]; exact q2
    · cases e
  · obtain ⟨a, ks, rfl, e0, r⟩ := r.lst
    simp only [kdP, Option.some.injEq] at hk
    subst hk
    have hai := r.allInts
    split at e
    · cases s with
      | cons a1 b1 =>
        cases b1
        cases a1
        cases q : (allIntsP _).bind fun ns => cntI .count ns _ with
        | none => rw [q] at e; cases e
        | some j => rw [q] at e; cases e; rw [← hai] at q; exact ⟨.int j, by simp only [methM, e0, q, Option.map_some, ofO], .int j⟩
    · cases s with
      | cons a1 b1 =>
        cases b1
        cases a1
        cases q : (allIntsP _).bind fun ns => cntI .index ns _ with
        | none => rw [q] at e; cases e
        | some j => rw [q] at e; cases e; rw [← hai] at q; exact ⟨.int j, by simp only [methM, e0, q, Option.map_some, ofO], .int j⟩
    · cases e
  · cases e
/-- a method that changes its list -/
theorem meth_ok {k : Me} {kd : Kd} {a : Nat} {ms : List MV} {vs : List PV} {y v' : PV} (r : Rt N h a v) (hk : kdP v = some kd) (s : Rds N h ms vs) (e : methP k v vs = some (y, v')) :
    ∃ my ns ws, v' = .lst ws ∧ methM k kd (.ref a) ms h = .ok my (h.set a (.lst ns)) ∧ Rd N h my y ∧ Rds N h ns ws := by
  unfold methP at e
  split at e
  · rename_i vxs
    cases r with
    | lst e0 r =>
      simp only [kdP, Option.some.injEq] at hk
      subst hk
      split at e
      · cases s with
        | cons a1 b1 =>
          cases b1
          split at e <;> cases e
          exact ⟨_, _, _, rfl, by simp only [methM, e0]; rw [if_pos (by rw [r.length]; assumption)], .non, r.append (.cons a1 .nil)⟩
      · cases s with
        | cons a1 b1 =>
          cases b1
          split at e <;> cases e
          cases a1 with
          | lst n1 e1 r1 => exact ⟨_, _, _, rfl, by simp only [methM, e0, e1]; rw [if_pos (by rw [r.length, r1.length]; assumption)], .non, r.append r1⟩
      · cases s with
        | cons a1 b1 =>
          cases b1
          split at e <;> cases e
          cases a1 with
          | tup q => exact ⟨_, _, _, rfl, by simp only [methM, e0]; rw [if_pos (by rw [r.length, q.length]; assumption)], .non, r.append q⟩
      · cases s
        cases q : vxs[vxs.length - 1]? with
        | none => rw [q] at e; cases e
        | some y =>
          rw [q] at e; cases e
          obtain ⟨m, e1, r1⟩ := r.get q
          exact ⟨m, _, _, rfl, by simp only [methM, e0, r.length, e1], r1, r.dropLast⟩
      · cases s with
        | cons a1 b1 =>
          cases b1
          cases a1
          split at e
          · rename_i i c
            cases q : vxs[i.toNat]? with
            | none => rw [q] at e; cases e
            | some y =>
              rw [q] at e; cases e
              obtain ⟨m, e1, r1⟩ := r.get q
              exact ⟨m, _, _, rfl, by simp only [methM, e0]; rw [if_pos c, e1], r1, r.eraseIdx _⟩
          · cases e
      · cases s with
        | cons a1 b1 =>
          cases b1 with
          | cons a2 b2 =>
            cases b2
            cases a1
            split at e <;> cases e
            exact ⟨_, _, _, rfl, by simp only [methM, e0]; rw [if_pos (by rw [r.length]; assumption)], .non, ((r.take _).append (.cons a2 .nil)).append (r.drop _)⟩
      · cases s; cases e; exact ⟨_, _, _, rfl, by simp only [methM, e0], .non, r.reverse⟩
      · cases s; cases e; exact ⟨_, _, _, rfl, by simp only [methM, e0], .non, .nil⟩
      · cases s with
        | cons a1 b1 =>
          cases b1
          cases a1
          rename_i kk
          cases q : (allIntsP vxs).bind fun ns => idxI ns kk with
          | none => rw [q] at e; cases e
          | some j =>
            rw [q] at e; cases e
            rw [← r.allInts] at q
            exact ⟨_, _, _, rfl, by simp only [methM, e0, q], .non, r.eraseIdx _⟩
      · cases e
  · cases e
theorem srt_ok {o : Opd} (r : Ct N h m v) (e : srtP v = some o) : OpOk N h o (srtM m h) := by
  unfold srtP at e
  split at e
  · obtain ⟨ms, rfl, q⟩ := r.tup
    split at e
    · rename_i ns hns
      split at e
      · rename_i hl
        cases e
        simp only [srtM, q.allInts, hns]
        rw [if_pos hl]
        exact ⟨_, rfl, .ints _⟩
      · cases e
    · cases e
  · cases e
theorem len_ok {o : Opd} (r : Ct N h m v) (e : lenP v = some o) : OpOk N h o (lenM m h) := by
  unfold lenP at e
  split at e
  · rename_i ns hns
    split at e
    · rename_i hl
      cases e
      obtain ⟨xs, h1, h2⟩ := Option.bind_eq_some_iff.mp hns
      obtain ⟨ms, g1, g2⟩ := r.seqs h1
      simp only [lenM, g1, Option.bind_some, g2.allInts, h2]
      rw [if_pos hl]
      exact ⟨_, rfl, .int _⟩
    · cases e
  · cases e
theorem dec_none {m : MV} {v : PV} (r : Rd N h m v) (e : decXP v = none) : decX m = none := by
  cases r with
  | tup q =>
    cases q with
    | nil => rfl
    | cons a b =>
      cases a with
      | str m =>
        cases b with
        | nil => rfl
        | cons a2 b2 =>
          cases a2 with
          | str c =>
            simp only [decXP] at e
            simp only [decX]
            split at e
            · rename_i hm
              rw [if_pos hm]
              split at e
              · cases e
              · rename_i hf
                rw [b2.flat, if_neg hf]
            · rename_i hm
              rw [if_neg hm]
          | _ => rfl
      | _ => rfl
  | _ => rfl
theorem dec_some {m : MV} {v : PV} {c : Str} {fs : List PV} (r : Rd N h m v) (e : decXP v = some (c, fs)) : ∃ ms, decX m = some (c, ms) ∧ Rds N h ms fs ∧ fs.all flatP = true ∧ v = encXP c fs := by
  unfold decXP at e
  split at e
  · rename_i m0 c0 fs0
    split at e
    · rename_i hm
      split at e
      · rename_i hf
        cases e
        subst hm
        cases r with
        | tup q =>
          cases q with
          | cons a b =>
            cases a
            cases b with
            | cons a2 b2 =>
              cases a2
              exact ⟨_, by simp only [decX, if_true]; rw [b2.flat, if_pos hf], b2, hf, rfl⟩
      · cases e
    · cases e
  · cases e
theorem flat_rds {ms : List MV} {vs : List PV} (r : Rds N h ms vs) (f : vs.all flatP = true) {N' : Nat → Prop} {h' : MH} : Rds N' h' ms vs := by
  induction vs generalizing ms with
  | nil => cases r; exact .nil
  | cons v vs ih =>
    cases r with
    | cons a b =>
      simp only [List.all_cons, Bool.and_eq_true] at f
      refine .cons ?_ (ih b f.2)
      cases a <;> first | exact .non | exact .bl _ | exact .int _ | exact .str _ | (have := f.1; simp [flatP] at this)
theorem Rds.look {fl : List Str} {ms : List MV} {vs : List PV} (r : Rds N h ms vs) (hl : fl.length = vs.length) {x : Str} {u : PV} (e : (fl.zip vs).lookup x = some u) : ∃ m, (fl.zip ms).lookup x = some m ∧ Rd N h m u := by
  induction fl generalizing ms vs with
  | nil => simp at e
  | cons f fl ih =>
    cases r with
    | nil => simp at hl
    | cons a b =>
      simp only [List.zip_cons_cons, List.lookup] at e ⊢
      split at e
      · rename_i hx
        cases e
        exact ⟨_, rfl, a⟩
      · rename_i hx
        exact ih b (by simpa using hl) e
theorem fld_ok {c : Str} {ms : List MV} {vs : List PV} (r : Rds N h ms vs) {x : Str} {u : PV} (e : fldXP c vs x = some u) : ∃ m, fldXM c ms x = some m ∧ Rd N h m u := by
  unfold fldXP at e
  unfold fldXM
  cases ht : clsTab c with
  | none => rw [ht] at e; cases e
  | some t =>
    rw [ht, Option.bind_some] at e
    rw [Option.bind_some]
    split at e
    · rename_i hl
      rw [if_pos (by rw [hl, r.length])]
      exact r.look hl e
    · cases e
theorem raise_ok {c : Str} {ms : List MV} {vs : List PV} (r : Rds N h ms vs) (e : raisableP c vs = true) : raisable c ms = true := by
  unfold raisableP at e
  unfold raisable
  rw [r.flat, r.length]
  exact e
/-- x[i] = y -/
theorem set_ok {a : Nat} {i y : MV} {vi vy v' : PV} (r : Rt N h a v) (ri : Ct N h i vi) (ry : Rd N h y vy) (e : setV v vi vy = some v') :
    ∃ o, setM (.ref a) i y h = some (h.set a o) ∧ ((∃ ns ws, o = .lst ns ∧ v' = .lst ws ∧ Rds N h ns ws) ∨ ∃ ns ws, o = .dct ns ∧ v' = .dct ws ∧ Rdk N h ns ws) := by
  unfold setV at e
  split at e
  · rename_i vxs
    cases r with
    | lst e0 r =>
      split at e
      · cases ri.int
        rename_i i
        cases q : ixN vxs.length i with
        | none => rw [q] at e; cases e
        | some j =>
          rw [q] at e
          simp only [Option.bind_some] at e
          split at e <;> cases e
          rename_i c
          exact ⟨_, by simp only [setM, e0, r.length, q, Option.bind_some]; rw [if_pos c], .inl ⟨_, _, rfl, rfl, r.set ry _⟩⟩
      · cases e
  · cases r with
    | dct e0 r =>
      have hk : keyOf i = keyOfP vi := by
        cases ri with
        | rd s => exact keyOf_eq s
        | rt s => cases s <;> rfl
      cases q : keyOfP vi with
      | none => rw [q] at e; cases e
      | some k =>
        rw [q] at e
        simp only [Option.bind_some] at e
        split at e <;> cases e
        rename_i c
        exact ⟨_, by simp only [setM, e0, hk, q, Option.bind_some]; rw [if_pos (by rw [r.length]; exact c)], .inr ⟨_, _, rfl, rfl, r.putK k ry⟩⟩
  · cases e
theorem rng_ok {xs : List PV} (r : Ct N h m v) (s : Ct N h n w) (e : rngP v w = some xs) : ∃ ms, rngM m n = some ms ∧ Rds N h ms xs := by
  unfold rngP at e
  split at e
  · cases r.int; cases s.int
    split at e <;> cases e
    exact ⟨_, by simp only [rngM]; rw [if_pos (by assumption)], Rds.rng _ _⟩
  · cases e
end
end Mn

set_option autoImplicit false
set_option maxHeartbeats 1000000
/-! Ps: stores of trees over stores of places; steps; taking out, shutting, putting back. -/
namespace Mn
open PySem L2
def NN (Z : Nat → Prop) (r : Nat → Option Nat) : Nat → Prop := fun a => Z a ∨ ∃ i, r i = some a
inductive Hd (N : Nat → Prop) (h : MH) (c : Cls) (m : MV) (v : PV) (ra : Option Nat) : Prop
  | fz : ra = none → Rd N h m v → (c = .bf ∨ isLD v = false) → Hd N h c m v ra
  | rt (a : Nat) : ra = some a → m = .ref a → Rt N h a v → Hd N h c m v ra
  | lk : ra = none → v = .lck → Hd N h c m v ra
structure St (cl : Nat → Cls) (Z : Nat → Prop) (h : MH) (σ : PS) (μ : MS') (r : Nat → Option Nat) : Prop where
  len : σ.length = μ.length
  sh : ∀ i v, cl i = .sh → σ[i]? = some (some v) → ∃ m, μ[i]? = some (some m) ∧ Rd (NN Z r) h m v
  ow : ∀ i v, cl i ≠ .sh → σ[i]? = some (some v) → ∃ m, μ[i]? = some (some m) ∧ Hd (NN Z r) h (cl i) m v (r i)
  rt : ∀ i a, r i = some a → cl i ≠ .sh ∧ a < h.length ∧ ¬ Z a
  inj : ∀ i j a, r i = some a → r j = some a → i = j
  zb : ∀ a, Z a → a < h.length
structure Fr (Z : Nat → Prop) (h : MH) (σ : PS) (r : Nat → Option Nat) (Z' : Nat → Prop) (h' : MH) (σ' : PS) (r' : Nat → Option Nat) : Prop where
  zz : ∀ a, Z a → Z' a
  len : h.length ≤ h'.length
  same : ∀ a o, h[a]? = some o → (∀ i, r i ≠ some a) → h'[a]? = some o
  nn : ∀ a, NN Z' r' a → NN Z r a ∨ h.length ≤ a
  lk : ∀ i : Nat, σ[i]? = some (some PV.lck) → σ'[i]? = some (some PV.lck)
theorem get_lt {α : Type} {l : List α} {i : Nat} {x : α} (e : l[i]? = some x) : i < l.length := (List.getElem?_eq_some_iff.mp e).1
section
variable {cl : Nat → Cls} {Z Z' Z1 Z2 Z0 : Nat → Prop} {h h' h1 h2 : MH} {σ σ' σ1 σ2 : PS} {μ μ' : MS'} {r r' r1 r2 : Nat → Option Nat} {o o' : Opd} {m m' : MV} {v : PV}
theorem Fr.refl : Fr Z h σ r Z h σ r := ⟨fun _ z => z, Nat.le_refl _, fun _ _ e _ => e, fun _ z => .inl z, fun _ z => z⟩
theorem Fr.trans (S : St cl Z1 h1 σ1 μ r1) (a : Fr Z h σ r Z1 h1 σ1 r1) (b : Fr Z1 h1 σ1 r1 Z2 h2 σ2 r2) : Fr Z h σ r Z2 h2 σ2 r2 := by
  refine ⟨fun x z => b.zz x (a.zz x z), Nat.le_trans a.len b.len, fun x o e n => ?_, fun x z => ?_, fun i z => b.lk i (a.lk i z)⟩
  · refine b.same x o (a.same x o e n) fun i q => ?_
    have lt := get_lt e
    rcases a.nn x (.inr ⟨i, q⟩) with z | z
    · rcases z with z | ⟨j, z⟩
      · exact (S.rt i x q).2.2 (a.zz x z)
      · exact n j z
    · omega
  · rcases b.nn x z with q | q
    · exact a.nn x q
    · exact .inr (Nat.le_trans a.len q)
theorem Fr.rd (F : Fr Z h σ r Z' h' σ' r') (q : Rd (NN Z r) h m v) : Rd (NN Z' r') h' m v := q.mono fun a o n e => ⟨fun z => by
  rcases F.nn a z with z | z
  · exact n z
  · have := get_lt e; omega, F.same a o e fun i z => n (.inr ⟨i, z⟩)⟩
theorem Fr.q (F : Fr Z h σ r Z' h' σ' r') : ∀ a o, ¬ NN Z r a → h[a]? = some o → ¬ NN Z' r' a ∧ h'[a]? = some o := fun a o n e => ⟨fun z => by
  rcases F.nn a z with z | z
  · exact n z
  · have := get_lt e; omega, F.same a o e fun i z => n (.inr ⟨i, z⟩)⟩
theorem Fr.rt (F : Fr Z h σ r Z' h' σ' r') {t : Nat} (n : ∀ i, r i ≠ some t) (q : Rt (NN Z r) h t v) : Rt (NN Z' r') h' t v := by
  refine q.mono F.q ?_
  have lt := q.lt
  rw [List.getElem?_eq_getElem lt]
  exact F.same t _ (List.getElem?_eq_getElem lt) n
theorem NN.weak (q : ∀ a, Z a → Z' a) (a : Nat) (z : NN Z r a) : NN Z' r a := by
  rcases z with z | z
  · exact .inl (q a z)
  · exact .inr z
theorem Hd.mono {N N' : Nat → Prop} {c : Cls} {ra : Option Nat} (q : ∀ a o, ¬ N a → h[a]? = some o → ¬ N' a ∧ h'[a]? = some o) (e : ∀ t, ra = some t → h'[t]? = h[t]?) (x : Hd N h c m v ra) : Hd N' h' c m v ra := by
  cases x with
  | fz a b c => exact .fz a (b.mono q) c
  | rt t a b c => exact .rt t a b (c.mono q (e t a))
  | lk a b => exact .lk a b
theorem St.weak (S : St cl Z' h σ μ r) (q : ∀ a, Z a → Z' a) : St cl Z h σ μ r := by
  have w : ∀ a o, ¬ NN Z' r a → h[a]? = some o → ¬ NN Z r a ∧ h[a]? = some o := fun a o n e => ⟨fun z => n (NN.weak q a z), e⟩
  refine ⟨S.len, fun i v c e => ?_, fun i v c e => ?_, fun i a e => ⟨(S.rt i a e).1, (S.rt i a e).2.1, fun z => (S.rt i a e).2.2 (q a z)⟩, S.inj, fun a z => S.zb a (q a z)⟩
  · obtain ⟨m, e1, e2⟩ := S.sh i v c e
    exact ⟨m, e1, e2.mono w⟩
  · obtain ⟨m, e1, e2⟩ := S.ow i v c e
    exact ⟨m, e1, e2.mono w fun _ _ => rfl⟩
theorem Fr.weak (F : Fr Z h σ r Z' h' σ' r') (q1 : ∀ a, Z a → Z2 a) (q2 : ∀ a, Z2 a → Z' a) : Fr Z h σ r Z2 h' σ' r' := ⟨q1, F.len, F.same, fun a z => F.nn a (NN.weak q2 a z), F.lk⟩
/-- the heap grows by an object -/
theorem St.push (S : St cl Z h σ μ r) (ob : MO) : St cl (fun a => Z a ∨ a = h.length) (h ++ [ob]) σ μ r := by
  have w : ∀ a o, ¬ NN Z r a → h[a]? = some o → ¬ NN (fun a => Z a ∨ a = h.length) r a ∧ (h ++ [ob])[a]? = some o := fun a o n e => by
    have lt := get_lt e
    refine ⟨fun z => ?_, by rw [List.getElem?_append_left lt]; exact e⟩
    rcases z with (z | z) | z
    · exact n (.inl z)
    · omega
    · exact n (.inr z)
  refine ⟨S.len, fun i v c e => ?_, fun i v c e => ?_, fun i a e => ⟨(S.rt i a e).1, ?_, fun z => ?_⟩, S.inj, fun a z => ?_⟩
  · obtain ⟨m, e1, e2⟩ := S.sh i v c e
    exact ⟨m, e1, e2.mono w⟩
  · obtain ⟨m, e1, e2⟩ := S.ow i v c e
    exact ⟨m, e1, e2.mono w fun t z => by rw [List.getElem?_append_left (S.rt i t z).2.1]⟩
  · have := (S.rt i a e).2.1; simp; omega
  · rcases z with z | z
    · exact (S.rt i a e).2.2 z
    · have := (S.rt i a e).2.1; omega
  · rcases z with z | z
    · have := S.zb a z; simp; omega
    · simp; omega
theorem Fr.push {ob : MO} : Fr Z h σ r (fun a => Z a ∨ a = h.length) (h ++ [ob]) σ r :=
  ⟨fun a z => .inl z, by simp, fun a o e _ => by rw [List.getElem?_append_left (get_lt e)]; exact e, fun a z => by
    rcases z with (z | z) | z
    · exact .inl (.inl z)
    · exact .inr (by omega)
    · exact .inl (.inr z), fun _ z => z⟩
/-! ### what an expression comes to -/
def TO (cl : Nat → Cls) (Z Z' : Nat → Prop) (h : MH) (μ : MS') (r : Nat → Option Nat) (o : Opd) (m : MV) : Prop := match o with
  | .val v => Rd (NN Z' r) h m v
  | .own v => ∃ t, m = .ref t ∧ Z' t ∧ ¬ Z t ∧ Rt (NN Z' r) h t v
  | .bor i => cl i ≠ .sh ∧ μ[i]? = some (some m)
theorem TO.step (S : St cl Z1 h1 σ1 μ r1) (x : TO cl Z Z1 h1 μ r1 o m) (F : Fr Z1 h1 σ1 r1 Z2 h2 σ2 r2) : TO cl Z Z2 h2 μ r2 o m := by
  cases o with
  | val v => exact F.rd x
  | own v => obtain ⟨t, e, a, b, c⟩ := x; exact ⟨t, e, F.zz t a, b, F.rt (fun i z => (S.rt i t z).2.2 a) c⟩
  | bor i => exact x
theorem rdV_eq {i : Nat} (e : rdV σ i = some v) : σ[i]? = some (some v) ∧ isLk v = false := by
  unfold rdV at e
  split at e
  · split at e
    · cases e
    · cases e; rename_i a b; exact ⟨a, by simpa using b⟩
  · cases e
theorem TO.ct (S : St cl Z' h σ μ r) (z : ∀ a, Z a → Z' a) (x : TO cl Z Z' h μ r o m) (e : lookO σ o = some v) : Ct (NN Z r) h m v := by
  cases o with
  | val u => cases e; exact .rd (Rd.weak (NN.weak z) x)
  | own u => cases e; obtain ⟨t, rfl, _, _, c⟩ := x; exact .rt (c.weak (NN.weak z))
  | bor i =>
    obtain ⟨e1, e2⟩ := rdV_eq e
    obtain ⟨m', e3, hd⟩ := S.ow i v x.1 e1
    rw [x.2] at e3
    cases e3
    cases hd with
    | fz _ q _ => exact .rd (q.weak (NN.weak z))
    | rt a _ e4 q => subst e4; exact .rt (q.weak (NN.weak z))
    | lk _ q => subst q; cases e2
def Opd.isB : Opd → Bool
  | .bor _ => true
  | _ => false
theorem TO.frz (S : St cl Z' h σ μ r) (z : ∀ a, Z a → Z' a) (x : TO cl Z Z' h μ r o m) (e : o.isB = false) : Rd (NN Z r) h m o.v := by
  cases o with
  | val u => exact Rd.weak (NN.weak z) x
  | own u =>
    obtain ⟨t, rfl, a, b, c⟩ := x
    refine (c.weak (NN.weak z)).frz fun n => ?_
    rcases n with n | ⟨i, n⟩
    · exact b n
    · exact (S.rt i t n).2.2 a
  | bor i => cases e
/-! ### a slot is given a value -/
def updR (r : Nat → Option Nat) (i : Nat) (ra : Option Nat) : Nat → Option Nat := fun j => if j = i then ra else r j
theorem updR_same {i : Nat} {ra : Option Nat} : updR r i ra i = ra := if_pos rfl
theorem updR_ne {i j : Nat} {ra : Option Nat} (n : j ≠ i) : updR r i ra j = r j := if_neg n
theorem NN.upd {i : Nat} {ra : Option Nat} (z : ∀ a, Z a → Z' a) (q : ∀ t, ra = some t → Z' t ∨ r i = some t) (a : Nat) (x : NN Z (updR r i ra) a) : NN Z' r a := by
  rcases x with x | ⟨j, x⟩
  · exact .inl (z a x)
  · by_cases e : j = i
    · subst e
      rw [updR_same] at x
      rcases q a x with y | y
      · exact .inl y
      · exact .inr ⟨_, y⟩
    · rw [updR_ne e] at x
      exact .inr ⟨j, x⟩
/-- slot i holds v, at m, its root ra -/
theorem St.put (S : St cl Z' h σ μ r) {i : Nat} {ra : Option Nat} {w : Option PV} (z : ∀ a, Z a → Z' a) (hl : μ'.length = μ.length) (hm : ∀ j, j ≠ i → μ'[j]? = μ[j]?)
    (hv : ∀ v, w = some v → i < μ.length → ∃ m, μ'[i]? = some (some m) ∧ (cl i = .sh → Rd (NN Z (updR r i ra)) h m v) ∧ (cl i ≠ .sh → Hd (NN Z (updR r i ra)) h (cl i) m v ra))
    (hr : ∀ t, ra = some t → cl i ≠ .sh ∧ t < h.length ∧ ¬ Z t ∧ (Z' t ∨ r i = some t)) : St cl Z h (σ.set i w) μ' (updR r i ra) := by
  have up := NN.upd (r := r) (i := i) (ra := ra) z fun t e => (hr t e).2.2.2
  have wk : ∀ a o, ¬ NN Z' r a → h[a]? = some o → ¬ NN Z (updR r i ra) a ∧ h[a]? = some o := fun a o n e => ⟨fun q => n (up a q), e⟩
  have slot : ∀ j v, (σ.set i w)[j]? = some (some v) → (j = i ∧ w = some v ∧ i < μ.length) ∨ (j ≠ i ∧ σ[j]? = some (some v)) := fun j v e => by
    by_cases c : j = i
    · subst c
      by_cases lt : j < σ.length
      · rw [List.getElem?_set_self lt] at e
        exact .inl ⟨rfl, by simpa using e, by rw [← S.len]; exact lt⟩
      · rw [List.getElem?_eq_none (by simpa using lt)] at e; cases e
    · rw [List.getElem?_set_ne (fun q => c q.symm)] at e
      exact .inr ⟨c, e⟩
  refine ⟨by rw [List.length_set, hl, S.len], fun j v c e => ?_, fun j v c e => ?_, fun j a e => ?_, fun j k a e1 e2 => ?_, fun a q => S.zb a (z a q)⟩
  · rcases slot j v e with ⟨rfl, e1, lt⟩ | ⟨n, e1⟩
    · obtain ⟨m, e2, e3, _⟩ := hv v e1 lt
      exact ⟨m, e2, e3 c⟩
    · obtain ⟨m, e2, e3⟩ := S.sh j v c e1
      exact ⟨m, by rw [hm j n]; exact e2, e3.mono wk⟩
  · rcases slot j v e with ⟨rfl, e1, lt⟩ | ⟨n, e1⟩
    · obtain ⟨m, e2, _, e3⟩ := hv v e1 lt
      exact ⟨m, e2, by rw [updR_same]; exact e3 c⟩
    · obtain ⟨m, e2, e3⟩ := S.ow j v c e1
      exact ⟨m, by rw [hm j n]; exact e2, by rw [updR_ne n]; exact e3.mono wk fun _ _ => rfl⟩
  · by_cases c : j = i
    · subst c
      rw [updR_same] at e
      obtain ⟨a1, a2, a3, _⟩ := hr a e
      exact ⟨a1, a2, a3⟩
    · rw [updR_ne c] at e
      have := S.rt j a e
      exact ⟨this.1, this.2.1, fun q => this.2.2 (z a q)⟩
  · have clash : ∀ j, j ≠ i → r j = some a → ra = some a → False := fun j n e1 e2 => by
      rcases (hr a e2).2.2.2 with q | q
      · exact (S.rt j a e1).2.2 q
      · exact n (S.inj j i a e1 q)
    by_cases c : j = i
    · by_cases d : k = i
      · rw [c, d]
      · exfalso
        rw [c, updR_same] at e1
        rw [updR_ne d] at e2
        exact clash k d e2 e1
    · by_cases d : k = i
      · exfalso
        rw [d, updR_same] at e2
        rw [updR_ne c] at e1
        exact clash j c e1 e2
      · rw [updR_ne c] at e1
        rw [updR_ne d] at e2
        exact S.inj j k a e1 e2
theorem set_lk {i : Nat} {w : Option PV} (n : σ[i]? ≠ some (some PV.lck) ∨ w = some PV.lck) : ∀ j : Nat, σ[j]? = some (some PV.lck) → (σ.set i w)[j]? = some (some PV.lck) := by
  intro j e
  by_cases c : j = i
  · subst c
    rcases n with n | n
    · exact absurd e n
    · rw [List.getElem?_set_self (get_lt e), n]
  · rw [List.getElem?_set_ne (fun q => c q.symm)]; exact e
theorem rdV_nlk {i : Nat} (e : rdV σ i = some v) : σ[i]? ≠ some (some PV.lck) := fun z => by
  obtain ⟨e1, e2⟩ := rdV_eq e
  rw [z] at e1; cases e1; cases e2
/-! ### taking out -/
theorem force_ok (S : St cl Z' h σ μ r) (z : ∀ a, Z a → Z' a) (x : TO cl Z Z' h μ r o m) (e : force cl o σ = some (o', σ')) :
    ∃ r2 Z2, St cl Z2 h σ' μ r2 ∧ Fr Z' h σ r Z2 h σ' r2 ∧ TO cl Z Z2 h μ r2 o' m ∧ o'.isB = false := by
  cases o with
  | val u => cases e; exact ⟨r, Z', S, .refl, x, rfl⟩
  | own u => cases e; exact ⟨r, Z', S, .refl, x, rfl⟩
  | bor i =>
    simp only [force] at e
    split at e
    · rename_i hc
      cases q : rdV σ i with
      | none => rw [q] at e; cases e
      | some v =>
        rw [q] at e
        simp only [Option.map_some, Option.some.injEq, Prod.mk.injEq] at e
        obtain ⟨e1, rfl⟩ := e
        obtain ⟨e2, e3⟩ := rdV_eq q
        obtain ⟨m', e4, hd⟩ := S.ow i v x.1 e2
        rw [x.2] at e4
        cases e4
        cases hd with
        | fz rn q1 q2 =>
          have ld : isLD v = false := by rcases q2 with q2 | q2; · rw [hc] at q2; cases q2
                                         · exact q2
          rw [ld] at e1
          subst e1
          have S2 := S.put (Z := Z') (i := i) (ra := none) (w := none) (fun _ z => z) rfl (fun _ _ => rfl) (fun v e => by cases e) (fun t e => by cases e)
          refine ⟨_, Z', S2, ⟨fun _ z => z, Nat.le_refl _, fun _ _ e _ => e, fun a y => .inl (NN.upd (fun _ z => z) (fun t e => by cases e) a y), set_lk (.inl (rdV_nlk q))⟩, ?_, rfl⟩
          exact Rd.weak (fun a y => NN.upd (fun _ z => z) (fun t e => by cases e) a y) q1
        | rt t rn q1 q2 =>
          rw [q2.ld] at e1
          subst e1 q1
          have hz : ¬ Z' t := (S.rt i t rn).2.2
          have lt : t < h.length := (S.rt i t rn).2.1
          have up : ∀ a, NN (fun a => Z' a ∨ a = t) (updR r i none) a → NN Z' r a := fun a y => by
            rcases y with (y | y) | ⟨j, y⟩
            · exact .inl y
            · subst y; exact .inr ⟨i, rn⟩
            · by_cases c : j = i
              · subst c; rw [updR_same] at y; cases y
              · rw [updR_ne c] at y; exact .inr ⟨j, y⟩
          have wk : ∀ a o, ¬ NN Z' r a → h[a]? = some o → ¬ NN (fun a => Z' a ∨ a = t) (updR r i none) a ∧ h[a]? = some o := fun a o n e => ⟨fun q => n (up a q), e⟩
          have S2 : St cl (fun a => Z' a ∨ a = t) h (σ.set i none) μ (updR r i none) := by
            have slot : ∀ j v, (σ.set i none)[j]? = some (some v) → j ≠ i ∧ σ[j]? = some (some v) := fun j v e => by
              by_cases c : j = i
              · subst c
                rw [List.getElem?_set_self (get_lt e2)] at e; cases e
              · rw [List.getElem?_set_ne (fun q => c q.symm)] at e
                exact ⟨c, e⟩
            refine ⟨by rw [List.length_set]; exact S.len, fun j v c e => ?_, fun j v c e => ?_, fun j a e => ?_, fun j k a f1 f2 => ?_, fun a y => ?_⟩
            · obtain ⟨n, e⟩ := slot j v e
              obtain ⟨m, f1, f2⟩ := S.sh j v c e
              exact ⟨m, f1, f2.mono wk⟩
            · obtain ⟨n, e⟩ := slot j v e
              obtain ⟨m, f1, f2⟩ := S.ow j v c e
              exact ⟨m, f1, by rw [updR_ne n]; exact f2.mono wk fun _ _ => rfl⟩
            · by_cases c : j = i
              · subst c; rw [updR_same] at e; cases e
              · rw [updR_ne c] at e
                refine ⟨(S.rt j a e).1, (S.rt j a e).2.1, fun y => ?_⟩
                rcases y with y | rfl
                · exact (S.rt j a e).2.2 y
                · exact c (S.inj j i _ e rn)
            · by_cases c : j = i
              · subst c; rw [updR_same] at f1; cases f1
              · by_cases d : k = i
                · subst d; rw [updR_same] at f2; cases f2
                · rw [updR_ne c] at f1; rw [updR_ne d] at f2; exact S.inj j k a f1 f2
            · rcases y with y | rfl
              · exact S.zb a y
              · exact lt
          refine ⟨_, _, S2, ⟨fun _ z => .inl z, Nat.le_refl _, fun _ _ e _ => e, fun a y => .inl (up a y), set_lk (.inl (rdV_nlk q))⟩, ?_, rfl⟩
          exact ⟨t, rfl, .inr rfl, fun y => hz (z t y), q2.weak up⟩
        | lk _ q2 => subst q2; cases e3
    · cases e
inductive TOs (cl : Nat → Cls) (Z Z' : Nat → Prop) (h : MH) (μ : MS') (r : Nat → Option Nat) : List Opd → List MV → Prop
  | nil : TOs cl Z Z' h μ r [] []
  | cons {o : Opd} {m : MV} {os : List Opd} {ms : List MV} : TO cl Z Z' h μ r o m → TOs cl Z Z' h μ r os ms → TOs cl Z Z' h μ r (o :: os) (m :: ms)
theorem TOs.step (S : St cl Z1 h1 σ1 μ r1) (F : Fr Z1 h1 σ1 r1 Z2 h2 σ2 r2) {os : List Opd} {ms : List MV} (x : TOs cl Z Z1 h1 μ r1 os ms) : TOs cl Z Z2 h2 μ r2 os ms := by
  induction x with
  | nil => exact .nil
  | cons a _ ih => exact .cons (a.step S F) ih
theorem forces_ok {os : List Opd} {ms : List MV} {vs : List PV} (S : St cl Z' h σ μ r) (z : ∀ a, Z a → Z' a) (x : TOs cl Z Z' h μ r os ms) (e : forces cl os σ = some (vs, σ')) :
    ∃ r2 Z2, St cl Z2 h σ' μ r2 ∧ Fr Z' h σ r Z2 h σ' r2 ∧ Rds (NN Z r2) h ms vs := by
  induction os generalizing σ Z' r ms vs with
  | nil => cases x; cases e; exact ⟨r, Z', S, .refl, .nil⟩
  | cons o os ih =>
    cases x with
    | cons a b =>
      simp only [forces] at e
      split at e
      · rename_i o1 s1 e1
        split at e
        · rename_i vs2 s2 e2
          cases e
          obtain ⟨r1, Z1, S1, F1, T1, nb⟩ := force_ok S z a e1
          obtain ⟨r2, Z2, S2, F2, R2⟩ := ih S1 (fun a q => F1.zz a (z a q)) (b.step S F1) e2
          refine ⟨r2, Z2, S2, F1.trans S1 F2, .cons ?_ R2⟩
          exact (T1.step S1 F2).frz S2 (fun a q => F2.zz a (F1.zz a (z a q))) nb
        · cases e
      · cases e
theorem looks_ok {os : List Opd} {ms : List MV} {vs : List PV} (S : St cl Z' h σ μ r) (z : ∀ a, Z a → Z' a) (x : TOs cl Z Z' h μ r os ms) (e : looks σ os = some vs) : Cts (NN Z r) h ms vs := by
  induction os generalizing ms vs with
  | nil => cases x; cases e; exact .nil
  | cons o os ih =>
    cases x with
    | cons a b =>
      simp only [looks] at e
      split at e
      · rename_i e1 e2
        cases e
        exact .cons (a.ct S z e1) (ih b e2)
      · cases e
/-! ### shutting and opening -/
/-- what a loop walks stays as it is -/
def Src (Z : Nat → Prop) (h : MH) (r : Nat → Option Nat) (m : MV) (v : PV) : Prop := Rd (NN Z r) h m v ∨ ∃ t, m = .ref t ∧ Z t ∧ Rt (NN Z r) h t v
theorem Src.step (S : St cl Z1 h1 σ1 μ r1) (F : Fr Z1 h1 σ1 r1 Z2 h2 σ2 r2) (x : Src Z1 h1 r1 m v) : Src Z2 h2 r2 m v := by
  rcases x with x | ⟨t, e, a, x⟩
  · exact .inl (F.rd x)
  · exact .inr ⟨t, e, F.zz t a, F.rt (fun i z => (S.rt i t z).2.2 a) x⟩
theorem Src.ct (x : Src Z h r m v) : Ct (NN Z r) h m v := by
  rcases x with x | ⟨t, rfl, a, x⟩
  · exact .rd x
  · exact .rt x
/-- how an operand is put back -/
def Lki (cl : Nat → Cls) (Zt : Nat → Prop) (o : Opd) (m : MV) (v : PV) (Z : Nat → Prop) (h : MH) (μ : MS') (r : Nat → Option Nat) : Prop := match o with
  | .bor i => cl i ≠ .sh ∧ μ[i]? = some (some m) ∧ ((∃ t, m = .ref t ∧ Z t ∧ ¬ Zt t ∧ Rt (NN Z r) h t v) ∨ (Rd (NN Z r) h m v ∧ (cl i = .bf ∨ isLD v = false)))
  | _ => True
theorem Lki.step {Zt : Nat → Prop} (S : St cl Z1 h1 σ1 μ r1) (F : Fr Z1 h1 σ1 r1 Z2 h2 σ2 r2) (hm : ∀ i, o = .bor i → μ'[i]? = μ[i]?) (x : Lki cl Zt o m v Z1 h1 μ r1) : Lki cl Zt o m v Z2 h2 μ' r2 := by
  cases o with
  | val _ => trivial
  | own _ => trivial
  | bor i =>
    obtain ⟨a, b, c⟩ := x
    refine ⟨a, by rw [hm i rfl]; exact b, ?_⟩
    rcases c with ⟨t, e1, e2, e3, e4⟩ | ⟨e1, e2⟩
    · exact .inl ⟨t, e1, F.zz t e2, e3, F.rt (fun i z => (S.rt i t z).2.2 e2) e4⟩
    · exact .inr ⟨F.rd e1, e2⟩
theorem lock_ok (S : St cl Z' h σ μ r) (z : ∀ a, Z a → Z' a) (x : TO cl Z Z' h μ r o m) (e : lockO o σ = some (v, σ')) :
    ∃ r2 Z2, St cl Z2 h σ' μ r2 ∧ Fr Z' h σ r Z2 h σ' r2 ∧ Src Z2 h r2 m v ∧ Lki cl Z' o m v Z2 h μ r2 ∧ (∀ i, o = .bor i → σ'[i]? = some (some PV.lck) ∧ σ[i]? ≠ some (some PV.lck)) := by
  cases o with
  | val u => cases e; exact ⟨r, Z', S, .refl, .inl x, trivial, fun i z => by cases z⟩
  | own u => cases e; obtain ⟨t, e1, e2, e3, e4⟩ := x; exact ⟨r, Z', S, .refl, .inr ⟨t, e1, e2, e4⟩, trivial, fun i z => by cases z⟩
  | bor i =>
    simp only [lockO] at e
    cases q : rdV σ i with
    | none => rw [q] at e; cases e
    | some w =>
      rw [q] at e
      cases e
      obtain ⟨e2, e3⟩ := rdV_eq q
      obtain ⟨m', e4, hd⟩ := S.ow i v x.1 e2
      rw [x.2] at e4
      cases e4
      have lt0 := get_lt e2
      have li : ∀ j, (Opd.bor i) = .bor j → (σ.set i (some PV.lck))[j]? = some (some PV.lck) ∧ σ[j]? ≠ some (some PV.lck) := fun j ej => by
        cases ej
        exact ⟨List.getElem?_set_self lt0, rdV_nlk q⟩
      cases hd with
      | fz rn q1 q2 =>
        have S2 := S.put (Z := Z') (i := i) (ra := none) (w := some PV.lck) (μ' := μ) (fun _ z => z) rfl (fun _ _ => rfl) (fun v e _ => ⟨m, x.2, fun c => absurd c x.1, fun _ => .lk rfl (by cases e; rfl)⟩) (fun t e => by cases e)
        have up : ∀ a, NN Z' (updR r i none) a → NN Z' r a := fun a y => NN.upd (fun _ z => z) (fun t e => by cases e) a y
        exact ⟨_, Z', S2, ⟨fun _ z => z, Nat.le_refl _, fun _ _ e _ => e, fun a y => .inl (up a y), set_lk (.inr rfl)⟩, .inl (q1.weak up), ⟨x.1, x.2, .inr ⟨q1.weak up, q2⟩⟩, li⟩
      | rt t rn q1 q2 =>
        subst q1
        have hz : ¬ Z' t := (S.rt i t rn).2.2
        have lt : t < h.length := (S.rt i t rn).2.1
        have up : ∀ a, NN (fun a => Z' a ∨ a = t) (updR r i none) a → NN Z' r a := fun a y => by
          rcases y with (y | y) | ⟨j, y⟩
          · exact .inl y
          · subst y; exact .inr ⟨i, rn⟩
          · by_cases c : j = i
            · subst c; rw [updR_same] at y; cases y
            · rw [updR_ne c] at y; exact .inr ⟨j, y⟩
        have wk : ∀ a o, ¬ NN Z' r a → h[a]? = some o → ¬ NN (fun a => Z' a ∨ a = t) (updR r i none) a ∧ h[a]? = some o := fun a o n e => ⟨fun q => n (up a q), e⟩
        have S2 : St cl (fun a => Z' a ∨ a = t) h (σ.set i (some PV.lck)) μ (updR r i none) := by
          have slot : ∀ j v, (σ.set i (some PV.lck))[j]? = some (some v) → (j = i ∧ v = .lck) ∨ (j ≠ i ∧ σ[j]? = some (some v)) := fun j v e => by
            by_cases c : j = i
            · subst c
              rw [List.getElem?_set_self (get_lt e2)] at e; cases e; exact .inl ⟨rfl, rfl⟩
            · rw [List.getElem?_set_ne (fun q => c q.symm)] at e
              exact .inr ⟨c, e⟩
          refine ⟨by rw [List.length_set]; exact S.len, fun j v c e => ?_, fun j v c e => ?_, fun j a e => ?_, fun j k a f1 f2 => ?_, fun a y => ?_⟩
          · rcases slot j v e with ⟨rfl, _⟩ | ⟨n, e⟩
            · exact absurd c x.1
            · obtain ⟨m, f1, f2⟩ := S.sh j v c e
              exact ⟨m, f1, f2.mono wk⟩
          · rcases slot j v e with ⟨rfl, rfl⟩ | ⟨n, e⟩
            · exact ⟨_, x.2, .lk updR_same rfl⟩
            · obtain ⟨m, f1, f2⟩ := S.ow j v c e
              exact ⟨m, f1, by rw [updR_ne n]; exact f2.mono wk fun _ _ => rfl⟩
          · by_cases c : j = i
            · subst c; rw [updR_same] at e; cases e
            · rw [updR_ne c] at e
              refine ⟨(S.rt j a e).1, (S.rt j a e).2.1, fun y => ?_⟩
              rcases y with y | rfl
              · exact (S.rt j a e).2.2 y
              · exact c (S.inj j i _ e rn)
          · by_cases c : j = i
            · subst c; rw [updR_same] at f1; cases f1
            · by_cases d : k = i
              · subst d; rw [updR_same] at f2; cases f2
              · rw [updR_ne c] at f1; rw [updR_ne d] at f2; exact S.inj j k a f1 f2
          · rcases y with y | rfl
            · exact S.zb a y
            · exact lt
        exact ⟨_, _, S2, ⟨fun _ z => .inl z, Nat.le_refl _, fun _ _ e _ => e, fun a y => .inl (up a y), set_lk (.inr rfl)⟩, .inr ⟨t, rfl, .inr rfl, q2.weak up⟩, ⟨x.1, x.2, .inl ⟨t, rfl, .inr rfl, hz, q2.weak up⟩⟩, li⟩
      | lk _ q2 => subst q2; cases e3
theorem unlock_ok {Zt : Nat → Prop} (S : St cl Z h σ μ r) (z : ∀ a, Zt a → Z a) (x : Lki cl Zt o m v Z h μ r) :
    ∃ r2, St cl Zt h (unlockO o v σ) μ r2 ∧ (∀ a, NN Zt r2 a → NN Z r a) := by
  cases o with
  | val _ => exact ⟨r, S.weak z, NN.weak z⟩
  | own _ => exact ⟨r, S.weak z, NN.weak z⟩
  | bor i =>
    obtain ⟨a, b, c⟩ := x
    rcases c with ⟨t, rfl, e2, e3, e4⟩ | ⟨e1, e2⟩
    · have up : ∀ a, NN Zt (updR r i (some t)) a → NN Z r a := fun a y => NN.upd z (fun t' e => by cases e; exact .inl e2) a y
      exact ⟨_, S.put (i := i) (ra := some t) (w := some v) z rfl (fun _ _ => rfl) (fun v' e _ => by cases e; exact ⟨_, b, fun c => absurd c a, fun _ => .rt t rfl rfl (e4.weak up)⟩) (fun t' e => by cases e; exact ⟨a, e4.lt, e3, .inl e2⟩), up⟩
    · have up : ∀ a, NN Zt (updR r i none) a → NN Z r a := fun a y => NN.upd z (fun t' e => by cases e) a y
      exact ⟨_, S.put (i := i) (ra := none) (w := some v) z rfl (fun _ _ => rfl) (fun v' e _ => by cases e; exact ⟨_, b, fun c => absurd c a, fun _ => .fz rfl (e1.weak up) e2⟩) (fun t' e => by cases e), up⟩
/-! ### a root's object changes -/
theorem St.mut (S : St cl Z h σ μ r) {i t : Nat} {ob : MO} {w : PV} (hr : r i = some t) (hm : μ[i]? = some (some (.ref t)))
    (ho : (∃ ns ws, ob = .lst ns ∧ w = .lst ws ∧ Rds (NN Z r) h ns ws) ∨ ∃ ns ws, ob = .dct ns ∧ w = .dct ws ∧ Rdk (NN Z r) h ns ws) :
    St cl Z (h.set t ob) (σ.set i (some w)) μ r := by
  have wk : ∀ a o, ¬ NN Z r a → h[a]? = some o → ¬ NN Z r a ∧ (h.set t ob)[a]? = some o := fun a o n e => ⟨n, by
    rw [List.getElem?_set_ne (fun q => by subst q; exact n (.inr ⟨i, hr⟩))]; exact e⟩
  have lt : t < h.length := (S.rt i t hr).2.1
  have slot : ∀ j v, (σ.set i (some w))[j]? = some (some v) → (j = i ∧ v = w) ∨ (j ≠ i ∧ σ[j]? = some (some v)) := fun j v e => by
    by_cases c : j = i
    · subst c
      by_cases lt : j < σ.length
      · rw [List.getElem?_set_self lt] at e; cases e; exact .inl ⟨rfl, rfl⟩
      · rw [List.getElem?_eq_none (by simpa using lt)] at e; cases e
    · rw [List.getElem?_set_ne (fun q => c q.symm)] at e
      exact .inr ⟨c, e⟩
  refine ⟨by rw [List.length_set]; exact S.len, fun j v c e => ?_, fun j v c e => ?_, fun j a e => ⟨(S.rt j a e).1, by rw [List.length_set]; exact (S.rt j a e).2.1, (S.rt j a e).2.2⟩, S.inj, fun a q => by rw [List.length_set]; exact S.zb a q⟩
  · rcases slot j v e with ⟨rfl, _⟩ | ⟨n, e⟩
    · exact absurd c (S.rt j t hr).1
    · obtain ⟨m, f1, f2⟩ := S.sh j v c e
      exact ⟨m, f1, f2.mono wk⟩
  · rcases slot j v e with ⟨rfl, rfl⟩ | ⟨n, e⟩
    · refine ⟨_, hm, .rt t hr rfl ?_⟩
      rcases ho with ⟨ns, ws, rfl, rfl, q⟩ | ⟨ns, ws, rfl, rfl, q⟩
      · exact .lst (List.getElem?_set_self lt) (q.mono wk)
      · exact .dct (List.getElem?_set_self lt) (q.mono wk)
    · obtain ⟨m, f1, f2⟩ := S.ow j v c e
      refine ⟨m, f1, f2.mono wk fun t' e' => ?_⟩
      rw [List.getElem?_set_ne (fun q => by subst q; exact n (S.inj j i _ e' hr))]
theorem Fr.mut {i t : Nat} {ob : MO} {w : PV} (hr : r i = some t) (nl : σ[i]? ≠ some (some PV.lck)) : Fr Z h σ r Z (h.set t ob) (σ.set i (some w)) r :=
  ⟨fun _ z => z, by simp, fun a o e n => by rw [List.getElem?_set_ne (fun q => by subst q; exact n i hr)]; exact e, fun a z => .inl z, set_lk (.inl nl)⟩
/-- what a variable that may be changed holds -/
theorem St.root (S : St cl Z h σ μ r) {i : Nat} (hc : canP cl i = true) (e : rdV σ i = some v) (hm : μ[i]? = some (some m)) (ld : isLD v = true) : ∃ t, r i = some t ∧ m = .ref t ∧ Rt (NN Z r) h t v := by
  obtain ⟨e1, e2⟩ := rdV_eq e
  have ns : cl i ≠ .sh := fun z => by simp [canP, z] at hc
  obtain ⟨m', e3, hd⟩ := S.ow i v ns e1
  rw [hm] at e3
  cases e3
  cases hd with
  | fz _ _ q =>
    rcases q with q | q
    · simp [canP, q] at hc
    · rw [ld] at q; cases q
  | rt t a b c => exact ⟨t, a, b, c⟩
  | lk _ q => subst q; cases e2
end
end Mn

set_option autoImplicit false
set_option maxHeartbeats 2000000
/-! Pt: expressions: what they come to over trees, they come to over places. -/
namespace Mn
open PySem L2
/-- a run over places that stands for a run over trees -/
def RE (cl : Nat → Cls) (Z : Nat → Prop) (h : MH) (σ : PS) (μ : MS') (r : Nat → Option Nat) (o : Opd) (σ' : PS) (R0 : R MV) : Prop :=
  ∃ m h' r' Z', R0 = .ok m h' ∧ St cl Z' h' σ' μ r' ∧ Fr Z h σ r Z' h' σ' r' ∧ TO cl Z Z' h' μ r' o m
def SE' (X : CQ) (M : Cm) (e : ME) : Prop := ∀ Z h σ μ r, St X.cl Z h σ μ r → ∀ o σ', evP X e σ = .ok o σ' → RE X.cl Z h σ μ r o σ' (evE M e μ h)
def RL (cl : Nat → Cls) (Z : Nat → Prop) (h : MH) (σ : PS) (μ : MS') (r : Nat → Option Nat) (os : List Opd) (σ' : PS) (R0 : R (List MV)) : Prop :=
  ∃ ms h' r' Z', R0 = .ok ms h' ∧ St cl Z' h' σ' μ r' ∧ Fr Z h σ r Z' h' σ' r' ∧ TOs cl Z Z' h' μ r' os ms
def SEs' (X : CQ) (M : Cm) (es : List ME) : Prop := ∀ Z h σ μ r, St X.cl Z h σ μ r → ∀ os σ', evPs X es σ = .ok os σ' → RL X.cl Z h σ μ r os σ' (evEs M es μ h)
def RB (cl : Nat → Cls) (Z : Nat → Prop) (h : MH) (σ : PS) (μ : MS') (r : Nat → Option Nat) (b : Bool) (σ' : PS) (R0 : R Bool) : Prop :=
  ∃ h' r', R0 = .ok b h' ∧ St cl Z h' σ' μ r' ∧ Fr Z h σ r Z h' σ' r'
def STs' (X : CQ) (M : Cm) (es : List ME) : Prop := ∀ Z h σ μ r, St X.cl Z h σ μ r → ∀ b σ', evPts X es σ = .ok b σ' → RB X.cl Z h σ μ r b σ' (evTs M es μ h)
theorem qbind_ok {α β : Type} {q : Q α} {f : α → PS → Q β} {b : β} {σ' : PS} (e : q.bind f = .ok b σ') : ∃ a σ1, q = .ok a σ1 ∧ f a σ1 = .ok b σ' := by
  cases q with
  | ok a σ1 => exact ⟨a, σ1, rfl, e⟩
  | exc _ _ _ => cases e
  | bad => cases e
theorem oO_ok {α : Type} {o : Option α} {σ σ' : PS} {a : α} (e : oO o σ = .ok a σ') : o = some a ∧ σ' = σ := by
  cases o with
  | none => cases e
  | some b => cases e; exact ⟨rfl, rfl⟩
theorem oB_ok {o : Option Bool} {σ σ' : PS} {a : Opd} (e : oB o σ = .ok a σ') : ∃ b, o = some b ∧ a = .val (.bl b) ∧ σ' = σ := by
  cases o with
  | none => cases e
  | some b => cases e; exact ⟨b, rfl, rfl, rfl⟩
theorem oV_ok {o : Option PV} {σ σ' : PS} {a : Opd} (e : oV o σ = .ok a σ') : ∃ b, o = some b ∧ a = .val b ∧ σ' = σ := by
  cases o with
  | none => cases e
  | some b => cases e; exact ⟨b, rfl, rfl, rfl⟩
theorem on1_ok {α : Type} {σ : PS} {o : Opd} {f : PV → Option α} {a : α} (e : on1 σ o f = some a) : ∃ x, lookO σ o = some x ∧ f x = some a := by
  unfold on1 at e
  split at e
  · exact ⟨_, by assumption, e⟩
  · cases e
theorem on2_ok {α : Type} {σ : PS} {o p : Opd} {f : PV → PV → Option α} {a : α} (e : on2 σ o p f = some a) : ∃ x y, lookO σ o = some x ∧ lookO σ p = some y ∧ f x y = some a := by
  unfold on2 at e
  split at e
  · exact ⟨_, _, by assumption, by assumption, e⟩
  · cases e
theorem intO_ok {σ : PS} {o : Opd} {i : Int} (e : intO σ o = some i) : lookO σ o = some (.int i) := by
  unfold intO at e
  split at e
  · cases e; assumption
  · cases e
section
variable {cl : Nat → Cls} {Z Z' Z1 Z2 Z0 : Nat → Prop} {h h' h1 h2 : MH} {σ σ' σ1 σ2 : PS} {μ μ' : MS'} {r r' r1 r2 : Nat → Option Nat} {o o' p : Opd} {m m' n : MV} {v : PV} {R0 : R MV}
/-- at the end of an operator -/
theorem RE.fin (S : St cl Z1 h1 σ1 μ r1) (F : Fr Z h σ r Z1 h1 σ1 r1) (x : OpOk (NN Z r1) h1 o R0) : RE cl Z h σ μ r o σ1 R0 := by
  have Sw := S.weak F.zz
  have Fw := F.weak (Z2 := Z) (fun _ z => z) F.zz
  cases o with
  | val v => obtain ⟨m, e, q⟩ := x; exact ⟨m, h1, r1, Z, e, Sw, Fw, q⟩
  | bor i => exact x.elim
  | own v =>
    have wk : ∀ ob a o, ¬ NN Z r1 a → h1[a]? = some o → ¬ NN (fun a => Z a ∨ a = h1.length) r1 a ∧ (h1 ++ [ob])[a]? = some o := fun ob => (Fr.push (σ := σ1) (ob := ob)).q
    have nz : ¬ Z h1.length := fun z => by have := Sw.zb _ z; omega
    cases v <;> try exact x.elim
    · obtain ⟨ms, e, q⟩ := x
      exact ⟨_, _, r1, _, e, Sw.push _, Fw.trans Sw .push, ⟨_, rfl, .inr rfl, nz, .lst (by simp) (q.mono (wk _))⟩⟩
    · obtain ⟨ms, e, q⟩ := x
      exact ⟨_, _, r1, _, e, Sw.push _, Fw.trans Sw .push, ⟨_, rfl, .inr rfl, nz, .dct (by simp) (q.mono (wk _))⟩⟩
theorem RE.val (S : St cl Z1 h1 σ1 μ r1) (F : Fr Z h σ r Z1 h1 σ1 r1) (x : Rd (NN Z r1) h1 m v) : RE cl Z h σ μ r (.val v) σ1 (.ok m h1) := RE.fin S F ⟨m, rfl, x⟩
/-- what is known of two operands -/
theorem two_ct (S : St cl Z2 h2 σ2 μ r2) (S1 : St cl Z1 h1 σ1 μ r1) (F1 : Fr Z h σ r Z1 h1 σ1 r1) (F2 : Fr Z1 h1 σ1 r1 Z2 h2 σ2 r2) (T1 : TO cl Z Z1 h1 μ r1 o m) (T2 : TO cl Z1 Z2 h2 μ r2 p n) {x y : PV} (e1 : lookO σ2 o = some x) (e2 : lookO σ2 p = some y) :
    Ct (NN Z r2) h2 m x ∧ Ct (NN Z r2) h2 n y :=
  ⟨(T1.step S1 F2).ct S (fun a z => F2.zz a (F1.zz a z)) e1, (T2.ct S F2.zz e2).weak (NN.weak F1.zz)⟩
theorem TO.base (q : ∀ a, Z a → Z1 a) (x : TO cl Z1 Z2 h μ r o m) : TO cl Z Z2 h μ r o m := by
  cases o with
  | val v => exact x
  | own v => obtain ⟨t, e, a, b, c⟩ := x; exact ⟨t, e, a, fun z => b (q t z), c⟩
  | bor i => exact x
theorem TOs.base (q : ∀ a, Z a → Z1 a) {os : List Opd} {ms : List MV} (x : TOs cl Z1 Z2 h μ r os ms) : TOs cl Z Z2 h μ r os ms := by
  induction x with
  | nil => exact .nil
  | cons a _ ih => exact .cons (a.base q) ih
theorem RE.after (S1 : St cl Z1 h1 σ1 μ r1) (F1 : Fr Z h σ r Z1 h1 σ1 r1) (x : RE cl Z1 h1 σ1 μ r1 o σ2 R0) : RE cl Z h σ μ r o σ2 R0 := by
  obtain ⟨m, h', r', Z', e, S, F, T⟩ := x
  exact ⟨m, h', r', Z', e, S, F1.trans S1 F, T.base F1.zz⟩
end
section
variable {X : CQ} {M : Cm} {a b c : ME} {es : List ME}
theorem se'_c {v : MV} : SE' X M (.c v) := by
  intro Z h σ μ r S o σ' e
  simp only [evP] at e
  split at e
  · cases e
    simp only [evE]
    exact RE.val S .refl (Rd.emb (by assumption))
  · cases e
theorem se'_var {i : Nat} : SE' X M (.var i) := by
  intro Z h σ μ r S o σ' e
  simp only [evP] at e
  split at e
  · rename_i v q
    obtain ⟨e1, e2⟩ := rdV_eq q
    split at e
    · cases e
      obtain ⟨m, f1, f2⟩ := S.sh i v (by assumption) e1
      simp only [evE, f1]
      exact RE.val S .refl f2
    · cases e
      obtain ⟨m, f1, f2⟩ := S.ow i v (by assumption) e1
      simp only [evE, f1]
      exact ⟨m, h, r, Z, rfl, S, .refl, ⟨by assumption, f1⟩⟩
  · cases e
theorem se'_glb {x : Str} (hg : M.gl = X.gl) : SE' X M (.glb x) := by
  intro Z h σ μ r S o σ' e
  simp only [evP] at e
  split at e
  · rename_i v q
    split at e
    · cases e
      simp only [evE, hg, q, ofO]
      exact RE.val S .refl (Rd.emb (by assumption))
    · cases e
  · cases e
theorem se'_tup (hs : SEs' X M es) : SE' X M (.tup es) := by
  intro Z h σ μ r S o σ' e
  simp only [evP] at e
  obtain ⟨os, σ1, e1, e⟩ := qbind_ok e
  obtain ⟨ms, h1, r1, Z1, q, S1, F1, T⟩ := hs Z h σ μ r S os σ1 e1
  simp only [evE, q, Mn.R.bind]
  split at e
  · rename_i vs σ2 e2
    cases e
    obtain ⟨r2, Z2, S2, F2, T2⟩ := forces_ok S1 F1.zz T e2
    exact RE.val S2 (F1.trans S1 F2) (.tup T2)
  · cases e
theorem se'_lst (hs : SEs' X M es) : SE' X M (.lst es) := by
  intro Z h σ μ r S o σ' e
  simp only [evP] at e
  obtain ⟨os, σ1, e1, e⟩ := qbind_ok e
  obtain ⟨ms, h1, r1, Z1, q, S1, F1, T⟩ := hs Z h σ μ r S os σ1 e1
  simp only [evE, q, Mn.R.bind]
  split at e
  · rename_i vs σ2 e2
    cases e
    obtain ⟨r2, Z2, S2, F2, T2⟩ := forces_ok S1 F1.zz T e2
    exact RE.fin S2 (F1.trans S1 F2) ⟨ms, rfl, T2⟩
  · cases e
theorem se'_dsp (hs : SEs' X M es) : SE' X M (.dsp es) := by
  intro Z h σ μ r S o σ' e
  simp only [evP] at e
  obtain ⟨os, σ1, e1, e⟩ := qbind_ok e
  obtain ⟨ms, h1, r1, Z1, q, S1, F1, T⟩ := hs Z h σ μ r S os σ1 e1
  simp only [evE, q, Mn.R.bind]
  split at e
  · rename_i vs σ2 e2
    split at e
    · rename_i ps e3
      cases e
      obtain ⟨r2, Z2, S2, F2, T2⟩ := forces_ok S1 F1.zz T e2
      obtain ⟨qs, e4, T4⟩ := T2.pairUp ps e3
      rw [e4]
      exact RE.fin S2 (F1.trans S1 F2) ⟨_, rfl, T4.fold .nil⟩
    · cases e
  · cases e
/-- two operands, one after the other -/
theorem two_ok (ha : SE' X M a) (hb : SE' X M b) {Z h σ μ r} (S : St X.cl Z h σ μ r) {o p : Opd} {σ1 σ2 : PS} (e1 : evP X a σ = .ok o σ1) (e2 : evP X b σ1 = .ok p σ2) :
    ∃ m h1 n h2 r2 Z2, evE M a μ h = .ok m h1 ∧ evE M b μ h1 = .ok n h2 ∧ St X.cl Z2 h2 σ2 μ r2 ∧ Fr Z h σ r Z2 h2 σ2 r2 ∧ TO X.cl Z Z2 h2 μ r2 o m ∧ TO X.cl Z Z2 h2 μ r2 p n := by
  obtain ⟨m, h1, r1, Z1, q1, S1, F1, T1⟩ := ha Z h σ μ r S o σ1 e1
  obtain ⟨n, h2, r2, Z2, q2, S2, F2, T2⟩ := hb Z1 h1 σ1 μ r1 S1 p σ2 e2
  exact ⟨m, h1, n, h2, r2, Z2, q1, q2, S2, F1.trans S1 F2, T1.step S1 F2, T2.base F1.zz⟩
theorem se'_bin {op : Operator} (ha : SE' X M a) (hb : SE' X M b) : SE' X M (.bin op a b) := by
  intro Z h σ μ r S o σ' e
  simp only [evP] at e
  obtain ⟨oa, σ1, e1, e⟩ := qbind_ok e
  obtain ⟨ob, σ2, e2, e⟩ := qbind_ok e
  obtain ⟨e3, rfl⟩ := oO_ok e
  obtain ⟨x, y, l1, l2, e4⟩ := on2_ok e3
  obtain ⟨m, h1, n, h2, r2, Z2, q1, q2, S2, F, T1, T2⟩ := two_ok ha hb S e1 e2
  simp only [evE, q1, q2, Mn.R.bind]
  exact RE.fin S2 F (bin_ok (T1.ct S2 F.zz l1) (T2.ct S2 F.zz l2) e4)
theorem se'_cmp {op : CmpOp} (ha : SE' X M a) (hb : SE' X M b) : SE' X M (.cmp op a b) := by
  intro Z h σ μ r S o σ' e
  simp only [evP] at e
  obtain ⟨oa, σ1, e1, e⟩ := qbind_ok e
  obtain ⟨ob, σ2, e2, e⟩ := qbind_ok e
  obtain ⟨t, e3, rfl, rfl⟩ := oB_ok e
  obtain ⟨x, y, l1, l2, e4⟩ := on2_ok e3
  obtain ⟨m, h1, n, h2, r2, Z2, q1, q2, S2, F, T1, T2⟩ := two_ok ha hb S e1 e2
  simp only [evE, q1, q2, Mn.R.bind, cmp_ok (T1.ct S2 F.zz l1) (T2.ct S2 F.zz l2) e4, ofB]
  exact RE.val S2 F (.bl t)
theorem se'_ix (ha : SE' X M a) (hb : SE' X M b) : SE' X M (.ix a b) := by
  intro Z h σ μ r S o σ' e
  simp only [evP] at e
  obtain ⟨oa, σ1, e1, e⟩ := qbind_ok e
  obtain ⟨ob, σ2, e2, e⟩ := qbind_ok e
  obtain ⟨t, e3, rfl, rfl⟩ := oV_ok e
  obtain ⟨x, y, l1, l2, e4⟩ := on2_ok e3
  obtain ⟨m, h1, n, h2, r2, Z2, q1, q2, S2, F, T1, T2⟩ := two_ok ha hb S e1 e2
  obtain ⟨k, e5, e6⟩ := ix_ok (T1.ct S2 F.zz l1) (T2.ct S2 F.zz l2) e4
  simp only [evE, q1, q2, Mn.R.bind, e5]
  exact RE.val S2 F e6
theorem se'_rngL (ha : SE' X M a) (hb : SE' X M b) : SE' X M (.rngL a b) := by
  intro Z h σ μ r S o σ' e
  simp only [evP] at e
  obtain ⟨oa, σ1, e1, e⟩ := qbind_ok e
  obtain ⟨ob, σ2, e2, e⟩ := qbind_ok e
  split at e
  · rename_i xs e3
    cases e
    obtain ⟨x, y, l1, l2, e4⟩ := on2_ok e3
    obtain ⟨m, h1, n, h2, r2, Z2, q1, q2, S2, F, T1, T2⟩ := two_ok ha hb S e1 e2
    obtain ⟨ms, e5, e6⟩ := rng_ok (T1.ct S2 F.zz l1) (T2.ct S2 F.zz l2) e4
    simp only [evE, q1, q2, Mn.R.bind, e5]
    exact RE.fin S2 F ⟨ms, rfl, e6⟩
  · cases e
theorem se'_rngT (ha : SE' X M a) (hb : SE' X M b) : SE' X M (.rngT a b) := by
  intro Z h σ μ r S o σ' e
  simp only [evP] at e
  obtain ⟨oa, σ1, e1, e⟩ := qbind_ok e
  obtain ⟨ob, σ2, e2, e⟩ := qbind_ok e
  split at e
  · rename_i xs e3
    cases e
    obtain ⟨x, y, l1, l2, e4⟩ := on2_ok e3
    obtain ⟨m, h1, n, h2, r2, Z2, q1, q2, S2, F, T1, T2⟩ := two_ok ha hb S e1 e2
    obtain ⟨ms, e5, e6⟩ := rng_ok (T1.ct S2 F.zz l1) (T2.ct S2 F.zz l2) e4
    simp only [evE, q1, q2, Mn.R.bind, e5]
    exact RE.val S2 F (.tup e6)
  · cases e
theorem se'_neg (ha : SE' X M a) : SE' X M (.neg a) := by
  intro Z h σ μ r S o σ' e
  simp only [evP] at e
  obtain ⟨oa, σ1, e1, e⟩ := qbind_ok e
  obtain ⟨m, h1, r1, Z1, q1, S1, F1, T1⟩ := ha Z h σ μ r S oa σ1 e1
  split at e
  · rename_i i e2
    cases e
    have := T1.ct S1 F1.zz (intO_ok e2)
    cases this.int
    simp only [evE, q1, Mn.R.bind]
    exact RE.val S1 F1 (.int _)
  · cases e
theorem se'_not (ha : SE' X M a) : SE' X M (.not_ a) := by
  intro Z h σ μ r S o σ' e
  simp only [evP] at e
  obtain ⟨oa, σ1, e1, e⟩ := qbind_ok e
  obtain ⟨m, h1, r1, Z1, q1, S1, F1, T1⟩ := ha Z h σ μ r S oa σ1 e1
  obtain ⟨t, e3, rfl, rfl⟩ := oB_ok e
  cases q : on1 σ' oa truthP with
  | none => rw [q] at e3; cases e3
  | some b =>
    rw [q] at e3
    cases e3
    obtain ⟨x, l1, e4⟩ := on1_ok q
    simp only [evE, q1, Mn.R.bind, (T1.ct S1 F1.zz l1).truth e4]
    exact RE.val S1 F1 (.bl _)
theorem se'_isi {t : Ty} (ha : SE' X M a) : SE' X M (.isi a t) := by
  intro Z h σ μ r S o σ' e
  simp only [evP] at e
  obtain ⟨oa, σ1, e1, e⟩ := qbind_ok e
  obtain ⟨m, h1, r1, Z1, q1, S1, F1, T1⟩ := ha Z h σ μ r S oa σ1 e1
  obtain ⟨t, e3, rfl, rfl⟩ := oB_ok e
  obtain ⟨x, l1, e4⟩ := on1_ok e3
  simp only [evE, q1, Mn.R.bind, isi_ok (T1.ct S1 F1.zz l1) e4, ofB]
  exact RE.val S1 F1 (.bl _)
theorem se'_sl (ha : SE' X M a) : SE' X M (.sl a) := by
  intro Z h σ μ r S o σ' e
  simp only [evP] at e
  obtain ⟨oa, σ1, e1, e⟩ := qbind_ok e
  obtain ⟨m, h1, r1, Z1, q1, S1, F1, T1⟩ := ha Z h σ μ r S oa σ1 e1
  obtain ⟨e3, rfl⟩ := oO_ok e
  obtain ⟨x, l1, e4⟩ := on1_ok e3
  simp only [evE, q1, Mn.R.bind]
  exact RE.fin S1 F1 (sl_ok (T1.ct S1 F1.zz l1) e4)
theorem se'_srtS (ha : SE' X M a) : SE' X M (.srtS a) := by
  intro Z h σ μ r S o σ' e
  simp only [evP] at e
  obtain ⟨oa, σ1, e1, e⟩ := qbind_ok e
  obtain ⟨m, h1, r1, Z1, q1, S1, F1, T1⟩ := ha Z h σ μ r S oa σ1 e1
  obtain ⟨e3, rfl⟩ := oO_ok e
  obtain ⟨x, l1, e4⟩ := on1_ok e3
  simp only [evE, q1, Mn.R.bind]
  exact RE.fin S1 F1 (srt_ok (T1.ct S1 F1.zz l1) e4)
theorem se'_lenS (ha : SE' X M a) : SE' X M (.lenS a) := by
  intro Z h σ μ r S o σ' e
  simp only [evP] at e
  obtain ⟨oa, σ1, e1, e⟩ := qbind_ok e
  obtain ⟨m, h1, r1, Z1, q1, S1, F1, T1⟩ := ha Z h σ μ r S oa σ1 e1
  obtain ⟨e3, rfl⟩ := oO_ok e
  obtain ⟨x, l1, e4⟩ := on1_ok e3
  simp only [evE, q1, Mn.R.bind]
  exact RE.fin S1 F1 (len_ok (T1.ct S1 F1.zz l1) e4)
theorem se'_rev (ha : SE' X M a) : SE' X M (.rev a) := by
  intro Z h σ μ r S o σ' e
  simp only [evP] at e
  obtain ⟨oa, σ1, e1, e⟩ := qbind_ok e
  obtain ⟨m, h1, r1, Z1, q1, S1, F1, T1⟩ := ha Z h σ μ r S oa σ1 e1
  obtain ⟨e3, rfl⟩ := oO_ok e
  obtain ⟨x, l1, e4⟩ := on1_ok e3
  simp only [evE, q1, Mn.R.bind]
  exact RE.fin S1 F1 (rev_ok (T1.ct S1 F1.zz l1) e4)
theorem se'_slL (ha : SE' X M a) (hb : SE' X M b) : SE' X M (.slL a b) := by
  intro Z h σ μ r S o σ' e
  simp only [evP] at e
  obtain ⟨oa, σ1, e1, e⟩ := qbind_ok e
  obtain ⟨ob, σ2, e2, e⟩ := qbind_ok e
  obtain ⟨m, h1, n, h2, r2, Z2, q1, q2, S2, F, T1, T2⟩ := two_ok ha hb S e1 e2
  split at e
  · rename_i i e3
    obtain ⟨e4, rfl⟩ := oO_ok e
    obtain ⟨x, l1, e5⟩ := on1_ok e4
    cases (T2.ct S2 F.zz (intO_ok e3)).int
    simp only [evE, q1, q2, Mn.R.bind]
    exact RE.fin S2 F (sl_ok (T1.ct S2 F.zz l1) e5)
  · cases e
theorem se'_slH (ha : SE' X M a) (hb : SE' X M b) : SE' X M (.slH a b) := by
  intro Z h σ μ r S o σ' e
  simp only [evP] at e
  obtain ⟨oa, σ1, e1, e⟩ := qbind_ok e
  obtain ⟨ob, σ2, e2, e⟩ := qbind_ok e
  obtain ⟨m, h1, n, h2, r2, Z2, q1, q2, S2, F, T1, T2⟩ := two_ok ha hb S e1 e2
  split at e
  · rename_i i e3
    obtain ⟨e4, rfl⟩ := oO_ok e
    obtain ⟨x, l1, e5⟩ := on1_ok e4
    cases (T2.ct S2 F.zz (intO_ok e3)).int
    simp only [evE, q1, q2, Mn.R.bind]
    exact RE.fin S2 F (sl_ok (T1.ct S2 F.zz l1) e5)
  · cases e
theorem se'_slB (ha : SE' X M a) (hb : SE' X M b) (hc : SE' X M c) : SE' X M (.slB a b c) := by
  intro Z h σ μ r S o σ' e
  simp only [evP] at e
  obtain ⟨oa, σ1, e1, e⟩ := qbind_ok e
  obtain ⟨ob, σ2, e2, e⟩ := qbind_ok e
  obtain ⟨m, h1, n, h2, r2, Z2, q1, q2, S2, F, T1, T2⟩ := two_ok ha hb S e1 e2
  split at e
  · rename_i i e3
    obtain ⟨oc, σ3, f1, e⟩ := qbind_ok e
    obtain ⟨k, h3, r3, Z3, q3, S3, F3, T3⟩ := hc Z2 h2 σ2 μ r2 S2 oc σ3 f1
    split at e
    · rename_i j e4
      obtain ⟨e5, rfl⟩ := oO_ok e
      obtain ⟨x, l1, e6⟩ := on1_ok e5
      cases (T2.ct S2 F.zz (intO_ok e3)).int
      cases (T3.ct S3 F3.zz (intO_ok e4)).int
      simp only [evE, q1, q2, q3, Mn.R.bind]
      have F' := F.trans S2 F3
      exact RE.fin S3 F' (sl_ok ((T1.step S2 F3).ct S3 F'.zz l1) e6)
    · cases e
  · cases e
theorem se'_chain {o1 o2 : CmpOp} (ha : SE' X M a) (hb : SE' X M b) (hc : SE' X M c) : SE' X M (.chain o1 o2 a b c) := by
  intro Z h σ μ r S o σ' e
  simp only [evP] at e
  obtain ⟨oa, σ1, e1, e⟩ := qbind_ok e
  obtain ⟨ob, σ2, e2, e⟩ := qbind_ok e
  obtain ⟨m, h1, n, h2, r2, Z2, q1, q2, S2, F, T1, T2⟩ := two_ok ha hb S e1 e2
  split at e
  · rename_i e3
    obtain ⟨x, y, l1, l2, e4⟩ := on2_ok e3
    obtain ⟨oc, σ3, f1, e⟩ := qbind_ok e
    obtain ⟨k, h3, r3, Z3, q3, S3, F3, T3⟩ := hc Z2 h2 σ2 μ r2 S2 oc σ3 f1
    obtain ⟨t, e5, rfl, rfl⟩ := oB_ok e
    obtain ⟨x2, y2, l3, l4, e6⟩ := on2_ok e5
    have F' := F.trans S2 F3
    simp only [evE, q1, q2, Mn.R.bind, cmp_ok (T1.ct S2 F.zz l1) (T2.ct S2 F.zz l2) e4, q3, cmp_ok ((T2.step S2 F3).ct S3 F'.zz l3) ((T3.base F.zz).ct S3 F'.zz l4) e6, ofB]
    exact RE.val S3 F' (.bl t)
  · rename_i e3
    cases e
    obtain ⟨x, y, l1, l2, e4⟩ := on2_ok e3
    simp only [evE, q1, q2, Mn.R.bind, cmp_ok (T1.ct S2 F.zz l1) (T2.ct S2 F.zz l2) e4]
    exact RE.val S2 F (.bl _)
  · cases e
theorem se'_and (ha : SE' X M a) (hb : SE' X M b) : SE' X M (.and_ a b) := by
  intro Z h σ μ r S o σ' e
  simp only [evP] at e
  obtain ⟨oa, σ1, e1, e⟩ := qbind_ok e
  obtain ⟨m, h1, r1, Z1, q1, S1, F1, T1⟩ := ha Z h σ μ r S oa σ1 e1
  split at e
  · rename_i e2
    obtain ⟨x, l1, e4⟩ := on1_ok e2
    simp only [evE, q1, Mn.R.bind, (T1.ct S1 F1.zz l1).truth e4]
    exact (hb Z1 h1 σ1 μ r1 S1 o σ' e).after S1 F1
  · rename_i e2
    cases e
    obtain ⟨x, l1, e4⟩ := on1_ok e2
    simp only [evE, q1, Mn.R.bind, (T1.ct S1 F1.zz l1).truth e4]
    exact ⟨m, h1, r1, Z1, rfl, S1, F1, T1⟩
  · cases e
theorem se'_or (ha : SE' X M a) (hb : SE' X M b) : SE' X M (.or_ a b) := by
  intro Z h σ μ r S o σ' e
  simp only [evP] at e
  obtain ⟨oa, σ1, e1, e⟩ := qbind_ok e
  obtain ⟨m, h1, r1, Z1, q1, S1, F1, T1⟩ := ha Z h σ μ r S oa σ1 e1
  split at e
  · rename_i e2
    cases e
    obtain ⟨x, l1, e4⟩ := on1_ok e2
    simp only [evE, q1, Mn.R.bind, (T1.ct S1 F1.zz l1).truth e4]
    exact ⟨m, h1, r1, Z1, rfl, S1, F1, T1⟩
  · rename_i e2
    obtain ⟨x, l1, e4⟩ := on1_ok e2
    simp only [evE, q1, Mn.R.bind, (T1.ct S1 F1.zz l1).truth e4]
    exact (hb Z1 h1 σ1 μ r1 S1 o σ' e).after S1 F1
  · cases e
theorem se'_ife (ht : SE' X M c) (ha : SE' X M a) (hb : SE' X M b) : SE' X M (.ife c a b) := by
  intro Z h σ μ r S o σ' e
  simp only [evP] at e
  obtain ⟨oa, σ1, e1, e⟩ := qbind_ok e
  obtain ⟨m, h1, r1, Z1, q1, S1, F1, T1⟩ := ht Z h σ μ r S oa σ1 e1
  split at e
  · rename_i e2
    obtain ⟨x, l1, e4⟩ := on1_ok e2
    simp only [evE, q1, Mn.R.bind, (T1.ct S1 F1.zz l1).truth e4]
    exact (ha Z1 h1 σ1 μ r1 S1 o σ' e).after S1 F1
  · rename_i e2
    obtain ⟨x, l1, e4⟩ := on1_ok e2
    simp only [evE, q1, Mn.R.bind, (T1.ct S1 F1.zz l1).truth e4]
    exact (hb Z1 h1 σ1 μ r1 S1 o σ' e).after S1 F1
  · cases e
theorem se'_blt {bi : Bi} (hs : SEs' X M es) : SE' X M (.blt bi es) := by
  intro Z h σ μ r S o σ' e
  simp only [evP] at e
  obtain ⟨os, σ1, e1, e⟩ := qbind_ok e
  obtain ⟨ms, h1, r1, Z1, q, S1, F1, T⟩ := hs Z h σ μ r S os σ1 e1
  simp only [evE, q, Mn.R.bind]
  split at e
  · rename_i vs e2
    obtain ⟨e3, rfl⟩ := oO_ok e
    exact RE.fin S1 F1 (blt_ok (looks_ok S1 F1.zz T e2) e3)
  · cases e
theorem methP_ld {m : Me} {o : PV} {vs : List PV} {y : PV × PV} (e : methP m o vs = some y) : isLD o = true := by cases o <;> first | rfl | cases e
theorem se'_meth {me : Me} (ha : SE' X M a) (hs : SEs' X M es) : SE' X M (.meth me a es) := by
  intro Z h σ μ r S o σ' e
  simp only [evP] at e
  obtain ⟨ob, σ1, e1, e⟩ := qbind_ok e
  obtain ⟨m, h1, r1, Z1, q1, S1, F1, T1⟩ := ha Z h σ μ r S ob σ1 e1
  split at e
  · rename_i kd e2
    obtain ⟨x, l1, e3⟩ := on1_ok e2
    obtain ⟨os, σ2, e4, e⟩ := qbind_ok e
    obtain ⟨ms, h2, r2, Z2, q2, S2, F2, T2⟩ := hs Z1 h1 σ1 μ r1 S1 os σ2 e4
    simp only [evE, q1, Mn.R.bind, (T1.ct S1 F1.zz l1).kd e3, q2]
    unfold methO at e
    split at e
    · rename_i vs σ3 e5
      obtain ⟨r3, Z3, S3, F3, T3⟩ := forces_ok S2 F2.zz T2 e5
      have F23 := F2.trans S2 F3
      have T1' := T1.step S1 F23
      have F' := F1.trans S1 F23
      split at e
      · split at e
        · rename_i x2 l2
          split at e
          · rename_i hk
            obtain ⟨e6, rfl⟩ := oO_ok e
            exact RE.fin S3 F' (read_ok (T1'.ct S3 F'.zz l2) hk (T3.weak (NN.weak F1.zz)) e6)
          · cases e
        · cases e
      · cases ob with
        | val _ => cases e
        | own _ => cases e
        | bor i =>
          dsimp only at e
          split at e
          · rename_i hc
            split at e
            · rename_i x2 l2
              split at e
              · rename_i hk
                split at e
                · rename_i y x' e6
                  cases e
                  have Sz := S3.weak F'.zz
                  have Fz := F'.weak (Z2 := Z) (fun _ z => z) F'.zz
                  obtain ⟨t, rt1, rfl, rt2⟩ := Sz.root hc l2 T1'.2 (methP_ld e6)
                  obtain ⟨my, ns, ws, rfl, e7, e8, e9⟩ := meth_ok rt2 hk (T3.weak (NN.weak F1.zz)) e6
                  have Fm : Fr Z h2 σ3 r3 Z (h2.set t (.lst ns)) (σ3.set i (some (.lst ws))) r3 := Fr.mut rt1 (rdV_nlk l2)
                  rw [e7]
                  exact ⟨my, _, r3, Z, rfl, Sz.mut rt1 T1'.2 (.inl ⟨ns, ws, rfl, rfl, e9⟩), Fz.trans Sz Fm, Fm.rd e8⟩
                · cases e
              · cases e
            · cases e
          · cases e
    · cases e
  · cases e
theorem ses'_nil : SEs' X M [] := by
  intro Z h σ μ r S os σ' e
  simp only [evPs] at e
  cases e
  exact ⟨[], h, r, Z, rfl, S, .refl, .nil⟩
theorem ses'_cons (ha : SE' X M a) (hs : SEs' X M es) : SEs' X M (a :: es) := by
  intro Z h σ μ r S os σ' e
  simp only [evPs] at e
  obtain ⟨o, σ1, e1, e⟩ := qbind_ok e
  obtain ⟨os, σ2, e2, e⟩ := qbind_ok e
  cases e
  obtain ⟨m, h1, r1, Z1, q1, S1, F1, T1⟩ := ha Z h σ μ r S o σ1 e1
  obtain ⟨ms, h2, r2, Z2, q2, S2, F2, T2⟩ := hs Z1 h1 σ1 μ r1 S1 _ _ e2
  exact ⟨m :: ms, h2, r2, Z2, by simp only [evEs, q1, q2, Mn.R.bind], S2, F1.trans S1 F2, .cons (T1.step S1 F2) (T2.base F1.zz)⟩
theorem sts'_nil : STs' X M [] := by
  intro Z h σ μ r S b σ' e
  simp only [evPts] at e
  cases e
  exact ⟨h, r, by simp only [evTs], S, .refl⟩
theorem sts'_cons (ha : SE' X M a) (hs : STs' X M es) : STs' X M (a :: es) := by
  intro Z h σ μ r S b σ' e
  simp only [evPts] at e
  obtain ⟨o, σ1, e1, e⟩ := qbind_ok e
  obtain ⟨m, h1, r1, Z1, q1, S1, F1, T1⟩ := ha Z h σ μ r S o σ1 e1
  have Sw := S1.weak F1.zz
  have Fw := F1.weak (Z2 := Z) (fun _ z => z) F1.zz
  split at e
  · rename_i e2
    obtain ⟨x, l1, e4⟩ := on1_ok e2
    obtain ⟨h2, r2, q2, S2, F2⟩ := hs Z h1 σ1 μ r1 Sw b σ' e
    exact ⟨h2, r2, by simp only [evTs, q1, Mn.R.bind, (T1.ct S1 F1.zz l1).truth e4, q2], S2, Fw.trans Sw F2⟩
  · rename_i e2
    cases e
    obtain ⟨x, l1, e4⟩ := on1_ok e2
    exact ⟨h1, r1, by simp only [evTs, q1, Mn.R.bind, (T1.ct S1 F1.zz l1).truth e4], Sw, Fw⟩
  · cases e
end
end Mn

set_option autoImplicit false
set_option maxHeartbeats 2000000
/-! Pu: loops and comprehensions. -/
namespace Mn
open PySem L2
theorem seqsP_of {v : PV} {xs : List PV} (e : seqsP v = some xs) : v = .tup xs ∨ lstsP v = some xs := by
  cases v <;> simp only [seqsP] at e <;> first | (cases e; exact .inl rfl) | exact .inr e
/-- what is walked -/
theorem it_ok {N : Nat → Prop} {h : MH} {ik : IK} {m n : MV} {x y : PV} {xs : List PV} (r : Ct N h m x) (s : Ct N h n y) (e : itP ik x y = some xs) :
    ∃ it, itM ik m n h = some it ∧ ∀ N' h', Ct N' h' m x → Ct N' h' n y → ∃ ms, it.items h' = some ms ∧ Rds N' h' ms xs := by
  have lref : ∀ {N : Nat → Prop} {h : MH} {a : Nat} {v : PV} {xs : List PV}, lstsP v = some xs → Ct N h (.ref a) v → ∃ ms, lsts h a = some ms ∧ Rds N h ms xs := fun q c => by
    obtain ⟨b, ms, eb, e1, e2⟩ := c.lsts q
    cases eb
    exact ⟨ms, e1, e2⟩
  unfold itP at e
  split at e
  · rcases seqsP_of e with rfl | q
    · obtain ⟨ms, rfl, _⟩ := r.tup
      refine ⟨.fix ms, rfl, fun N' h' c _ => ?_⟩
      obtain ⟨ms', e1, e2⟩ := c.tup
      cases e1
      exact ⟨_, rfl, e2⟩
    · obtain ⟨a, ms, rfl, e1, _⟩ := r.lsts q
      exact ⟨.live a, by simp only [itM, e1, Option.map_some], fun N' h' c _ => lref q c⟩
  · split at e <;> cases e
    cases r.int
    exact ⟨_, by simp only [itM]; rw [if_pos (by assumption)], fun N' h' _ _ => ⟨_, rfl, Rds.rng _ _⟩⟩
  · split at e <;> cases e
    cases r.int; cases s.int
    exact ⟨_, by simp only [itM]; rw [if_pos (by assumption)], fun N' h' _ _ => ⟨_, rfl, Rds.rng _ _⟩⟩
  · cases q0 : seqsP x with
    | none => rw [q0] at e; cases e
    | some ys =>
      rw [q0] at e; cases e
      rcases seqsP_of q0 with rfl | q
      · obtain ⟨ms, rfl, _⟩ := r.tup
        refine ⟨.enumF ms, rfl, fun N' h' c _ => ?_⟩
        obtain ⟨ms', e1, e2⟩ := c.tup
        cases e1
        exact ⟨_, rfl, e2.enum⟩
      · obtain ⟨a, ms, rfl, e1, _⟩ := r.lsts q
        refine ⟨.enumL a, by simp only [itM, e1, Option.map_some], fun N' h' c _ => ?_⟩
        obtain ⟨ms, f1, f2⟩ := lref q c
        exact ⟨_, by simp only [It.items, f1, Option.map_some], f2.enum⟩
  · cases e
    obtain ⟨ms, rfl, _⟩ := r.tup
    obtain ⟨ns, rfl, _⟩ := s.tup
    refine ⟨.zipFF ms ns, rfl, fun N' h' c d => ?_⟩
    obtain ⟨ms', e1, e2⟩ := c.tup
    obtain ⟨ns', f1, f2⟩ := d.tup
    cases e1; cases f1
    exact ⟨_, rfl, e2.zip f2⟩
  · split at e
    · rename_i q1 q2
      cases e
      obtain ⟨a, ms, rfl, e1, _⟩ := r.lsts q1
      obtain ⟨b, ns, rfl, e2, _⟩ := s.lsts q2
      refine ⟨.zipLL a b, by simp only [itM, e1, e2], fun N' h' c d => ?_⟩
      obtain ⟨ms, f1, f2⟩ := lref q1 c
      obtain ⟨ns, g1, g2⟩ := lref q2 d
      exact ⟨_, by simp only [It.items, f1, g1], f2.zip g2⟩
    · cases e
  · cases e
section
variable {cl : Nat → Cls} {Z Z' Z1 Z2 Z0 : Nat → Prop} {h h' h1 h2 : MH} {σ σ' σ1 σ2 : PS} {μ μ' : MS'} {r r' r1 r2 : Nat → Option Nat} {o o' p : Opd} {m m' n : MV} {v : PV}
/-- how an operand is put back where another one is shut behind it -/
def Lkj (cl : Nat → Cls) (Zt Zm : Nat → Prop) (o : Opd) (m : MV) (v : PV) (Z : Nat → Prop) (h : MH) (μ : MS') (r : Nat → Option Nat) : Prop := match o with
  | .bor i => cl i ≠ .sh ∧ μ[i]? = some (some m) ∧ ((∃ t, m = .ref t ∧ Zm t ∧ ¬ Zt t ∧ Rt (NN Z r) h t v) ∨ (Rd (NN Z r) h m v ∧ (cl i = .bf ∨ isLD v = false)))
  | _ => True
theorem Lkj.of {Zt : Nat → Prop} (x : Lki cl Zt o m v Z h μ r) : Lkj cl Zt Z o m v Z h μ r := x
theorem Lkj.to {Zt Zm : Nat → Prop} (x : Lkj cl Zt Zm o m v Z h μ r) (f : ∀ a, NN Zm r1 a → NN Z r a) : Lki cl Zt o m v Zm h μ r1 := by
  cases o with
  | val _ => trivial
  | own _ => trivial
  | bor i =>
    obtain ⟨a, b, c⟩ := x
    refine ⟨a, b, ?_⟩
    rcases c with ⟨t, e1, e2, e3, e4⟩ | ⟨e1, e2⟩
    · exact .inl ⟨t, e1, e2, e3, e4.weak f⟩
    · exact .inr ⟨e1.weak f, e2⟩
theorem Lkj.step {Zt Zm : Nat → Prop} (S : St cl Z1 h1 σ1 μ r1) (F : Fr Z1 h1 σ1 r1 Z2 h2 σ2 r2) (hm : ∀ i, o = .bor i → μ'[i]? = μ[i]?) (z : ∀ a, Zm a → Z1 a) (x : Lkj cl Zt Zm o m v Z1 h1 μ r1) : Lkj cl Zt Zm o m v Z2 h2 μ' r2 := by
  cases o with
  | val _ => trivial
  | own _ => trivial
  | bor i =>
    obtain ⟨a, b, c⟩ := x
    refine ⟨a, by rw [hm i rfl]; exact b, ?_⟩
    rcases c with ⟨t, e1, e2, e3, e4⟩ | ⟨e1, e2⟩
    · exact .inl ⟨t, e1, e2, e3, F.rt (fun i q => (S.rt i t q).2.2 (z t e2)) e4⟩
    · exact .inr ⟨F.rd e1, e2⟩
theorem src_ok {ik : IK} {oa ob : Opd} {x y : PV} {xs : List PV} (S : St cl Z' h σ μ r) (z : ∀ a, Z a → Z' a) (Ta : TO cl Z Z' h μ r oa m) (Tb : TO cl Z Z' h μ r ob n) (e : srcP ik oa ob σ = some (x, y, xs, σ')) :
    ∃ r2 Z2 Zm, St cl Z2 h σ' μ r2 ∧ Fr Z' h σ r Z2 h σ' r2 ∧ Src Z2 h r2 m x ∧ Src Z2 h r2 n y ∧ (∀ a, Z' a → Zm a) ∧ (∀ a, Zm a → Z2 a) ∧ Lkj cl Z' Zm oa m x Z2 h μ r2 ∧ Lkj cl Zm Z2 ob n y Z2 h μ r2 ∧ itP ik x y = some xs ∧ (∀ i, oa = .bor i ∨ ob = .bor i → σ'[i]? = some (some PV.lck)) ∧ (∀ i, oa = .bor i ∨ ob = .bor i → σ[i]? ≠ some (some PV.lck)) := by
  unfold srcP at e
  split at e
  · rename_i x1 σ1 e1
    split at e
    · rename_i y1 σ2 e2
      cases q : itP ik x1 y1 with
      | none => rw [q] at e; cases e
      | some ys =>
        rw [q] at e
        cases e
        obtain ⟨r1, Z1, S1, F1, s1, k1, n1⟩ := lock_ok S z Ta e1
        obtain ⟨r2, Z2, S2, F2, s2, k2, n2⟩ := lock_ok S1 (fun a q => F1.zz a (z a q)) (Tb.step S F1) e2
        refine ⟨r2, Z2, Z1, S2, F1.trans S1 F2, s1.step S1 F2, s2, F1.zz, F2.zz, ?_, k2, q, fun i hi => ?_, fun i hi => ?_⟩
        · exact (Lkj.of k1).step S1 F2 (fun _ _ => rfl) fun _ q => q
        · rcases hi with hi | hi
          · exact F2.lk i (n1 i hi).1
          · exact (n2 i hi).1
        · rcases hi with hi | hi
          · exact (n1 i hi).2
          · exact fun z => (n2 i hi).2 (F1.lk i z)
    · cases e
  · cases e
theorem unlockO_get {j : Nat} (n : o ≠ .bor j) : (unlockO o v σ)[j]? = σ[j]? := by
  cases o with
  | bor i => simp only [unlockO]; rw [List.getElem?_set_ne (fun q => n (by rw [q]))]
  | _ => rfl
/-- both opened again -/
theorem unsrc_ok {oa ob : Opd} {x y : PV} {Zm Zt Z2 : Nat → Prop} (S : St cl Z2 h σ μ r) (z1 : ∀ a, Zt a → Zm a) (z2 : ∀ a, Zm a → Z2 a)
    (ka : Lkj cl Zt Zm oa m x Z2 h μ r) (kb : Lkj cl Zm Z2 ob n y Z2 h μ r) : ∃ r2, St cl Zt h (unlockO oa x (unlockO ob y σ)) μ r2 ∧ (∀ a, NN Zt r2 a → NN Z2 r a) := by
  obtain ⟨r1, S1, f1⟩ := unlock_ok S z2 (kb.to fun _ q => q)
  obtain ⟨r2, S2, f2⟩ := unlock_ok S1 z1 (ka.to f1)
  exact ⟨r2, S2, fun a q => f1 a (f2 a q)⟩
theorem unlock_lk {oa ob : Opd} {x y : PV} (n : ∀ i, oa = .bor i ∨ ob = .bor i → σ1[i]? ≠ some (some PV.lck)) (q : ∀ i : Nat, σ1[i]? = some (some PV.lck) → σ[i]? = some (some PV.lck)) :
    ∀ i : Nat, σ1[i]? = some (some PV.lck) → (unlockO oa x (unlockO ob y σ))[i]? = some (some PV.lck) := fun i e => by
  rw [unlockO_get fun z => n i (.inl z) e, unlockO_get fun z => n i (.inr z) e]
  exact q i e
/-! ### names given -/
def lkμ (cl : Nat → Cls) (σ : PS) (μ μ' : MS') : Prop := ∀ i : Nat, (σ[i]? = some (some PV.lck) ∨ cl i = .io ∨ cl i = .br ∨ cl i = .bf) → μ'[i]? = μ[i]?
theorem lkμ.trans (F : ∀ i : Nat, σ[i]? = some (some PV.lck) → σ1[i]? = some (some PV.lck)) {μ1 : MS'} (a : lkμ cl σ μ μ1) (b : lkμ cl σ1 μ1 μ') : lkμ cl σ μ μ' := fun i z => (b i (z.imp (F i) id)).trans (a i z)
mutual
theorem asgq_ok : ∀ (tg : MT) {v : PV} {m : MV} {σ : PS} {μ : MS'} {r : Nat → Option Nat} {σ' : PS}, St cl Z h σ μ r → Rd (NN Z r) h m v → asgP cl tg v σ = some σ' →
    ∃ μ' r', asgT tg m μ = some μ' ∧ St cl Z h σ' μ' r' ∧ Fr Z h σ r Z h σ' r' ∧ lkμ cl σ μ μ' ∧ (∀ i, i ∉ tg.slots → μ'[i]? = μ[i]? ∧ σ'[i]? = σ[i]?) ∧ μ'.length = μ.length
  | .nm i, v, m, σ, μ, r, σ', S, q, e => by
    simp only [asgP] at e
    split at e
    · rename_i hc
      cases e
      have rn : r i = none := by
        cases z : r i with
        | none => rfl
        | some t => exact absurd hc (S.rt i t z).1
      have ur : updR r i none = r := by
        funext j
        by_cases c : j = i
        · subst c; rw [updR_same, rn]
        · exact updR_ne c
      have S2 := S.put (Z := Z) (i := i) (ra := none) (w := some v) (μ' := μ.set i (some m)) (fun _ z => z) (by simp) (fun j n => List.getElem?_set_ne (fun z => n z.symm)) (fun v' ev lt => by
        cases ev; rw [ur]; exact ⟨m, List.getElem?_set_self lt, fun _ => q, fun n => absurd hc n⟩) (fun t et => by cases et)
      rw [ur] at S2
      have nl : σ[i]? ≠ some (some PV.lck) := fun z => by
        obtain ⟨m', _, y⟩ := S.sh i _ hc z
        cases y
      refine ⟨_, r, rfl, S2, ⟨fun _ z => z, Nat.le_refl _, fun _ _ e _ => e, fun a z => .inl z, set_lk (.inl nl)⟩, fun j z => ?_, fun j nj => ?_, by simp⟩
      · rw [List.getElem?_set_ne]; intro c; subst c; rcases z with z | z | z | z
        · exact nl z
        all_goals (rw [hc] at z; cases z)
      · simp [MT.slots] at nj
        exact ⟨List.getElem?_set_ne (fun z => nj z.symm), List.getElem?_set_ne (fun z => nj z.symm)⟩
    · rename_i hc
      split at e
      · cases e
      · rename_i ld
        split at e
        · cases e
        · rename_i nl
          cases e
          have up : ∀ a, NN Z (updR r i none) a → NN Z r a := fun a y => NN.upd (fun _ z => z) (fun t e => by cases e) a y
          have S2 := S.put (Z := Z) (i := i) (ra := none) (w := some v) (μ' := μ.set i (some m)) (fun _ z => z) (by simp) (fun j n => List.getElem?_set_ne (fun z => n z.symm)) (fun v' ev lt => by
            cases ev; exact ⟨m, List.getElem?_set_self lt, fun c => (by rw [hc] at c; cases c), fun n => .fz rfl (q.weak up) (.inr (by simpa using ld))⟩) (fun t et => by cases et)
          refine ⟨_, _, rfl, S2, ⟨fun _ z => z, Nat.le_refl _, fun _ _ e _ => e, fun a z => .inl (up a z), set_lk (.inl nl)⟩, fun j z => ?_, fun j nj => ?_, by simp⟩
          · rw [List.getElem?_set_ne]; intro c; subst c; rcases z with z | z | z | z
            · exact nl z
            all_goals (rw [hc] at z; cases z)
          · simp [MT.slots] at nj
            exact ⟨List.getElem?_set_ne (fun z => nj z.symm), List.getElem?_set_ne (fun z => nj z.symm)⟩
    · cases e
  | .tp ts, v, m, σ, μ, r, σ', S, q, e => by
    cases v <;> simp only [asgP] at e <;> try (cases e; done)
    cases q with
    | tup q =>
      split at e
      · rename_i hl
        obtain ⟨μ', r', e1, a, b, c, d, l⟩ := asgs_ok ts S q e
        exact ⟨μ', r', by simp only [asgT]; rw [if_pos (by rw [q.length]; exact hl)]; exact e1, a, b, c, fun i n => d i (by simpa [MT.slots] using n), l⟩
      · cases e
theorem asgs_ok : ∀ (tg : List MT) {v : List PV} {m : List MV} {σ : PS} {μ : MS'} {r : Nat → Option Nat} {σ' : PS}, St cl Z h σ μ r → Rds (NN Z r) h m v → asgPs cl tg v σ = some σ' →
    ∃ μ' r', asgTs tg m μ = some μ' ∧ St cl Z h σ' μ' r' ∧ Fr Z h σ r Z h σ' r' ∧ lkμ cl σ μ μ' ∧ (∀ i, i ∉ MT.slotss tg → μ'[i]? = μ[i]? ∧ σ'[i]? = σ[i]?) ∧ μ'.length = μ.length
  | [], v, m, σ, μ, r, σ', S, q, e => by
    simp only [asgPs] at e
    cases e
    exact ⟨μ, r, by simp only [asgTs], S, .refl, fun _ _ => rfl, fun _ _ => ⟨rfl, rfl⟩, rfl⟩
  | t :: ts, v, m, σ, μ, r, σ', S, q, e => by
    cases q with
    | nil => simp only [asgPs] at e; cases e
    | cons a b =>
      simp only [asgPs] at e
      cases q1 : asgP cl t _ σ with
      | none => rw [q1] at e; cases e
      | some σ1 =>
        rw [q1] at e
        obtain ⟨μ1, r1, e1, S1, F1, k1, d1, l1⟩ := asgq_ok t S a q1
        obtain ⟨μ2, r2, e2, S2, F2, k2, d2, l2⟩ := asgs_ok ts S1 (b.mono F1.q) e
        refine ⟨μ2, r2, by simp only [asgTs, e1, Option.bind_some, e2], S2, F1.trans S1 F2, k1.trans F1.lk k2, fun i n => ?_, l2.trans l1⟩
        simp only [MT.slotss, List.mem_append, not_or] at n
        exact ⟨(d2 i n.2).1.trans (d1 i n.1).1, (d2 i n.2).2.trans (d1 i n.1).2⟩
end
/-! ### slots of a comprehension's own -/
theorem wipeP_get : ∀ {own : List Nat} {σ : PS} {i : Nat}, (wipeP σ own)[i]? = if i ∈ own then (if i < σ.length then some none else none) else σ[i]?
  | [], σ, i => by simp [wipeP]
  | v :: vs, σ, i => by
    have ln : ∀ {own : List Nat} {σ : PS}, (wipeP σ own).length = σ.length := fun {own σ} => by
      induction own with
      | nil => rfl
      | cons a l ih => simp [wipeP, ih]
    simp only [wipeP]
    by_cases c : i = v
    · subst c
      by_cases lt : i < σ.length
      · rw [List.getElem?_set_self (by rw [ln]; exact lt)]; simp [lt]
      · rw [List.getElem?_eq_none (by rw [List.length_set, ln]; omega)]; simp [lt]
    · rw [List.getElem?_set_ne (fun z => c z.symm), wipeP_get]
      simp [c]
theorem wipeP_len : ∀ {own : List Nat} {σ : PS}, (wipeP σ own).length = σ.length
  | [], σ => rfl
  | v :: vs, σ => by simp [wipeP, wipeP_len]
theorem wipeM_get : ∀ {own : List Nat} {σ : MS'} {i : Nat}, i ∉ own → (wipeM σ own)[i]? = σ[i]?
  | [], σ, i, _ => rfl
  | v :: vs, σ, i, n => by
    simp only [List.mem_cons, not_or] at n
    simp only [wipeM]
    rw [List.getElem?_set_ne (fun z => n.1 z.symm), wipeM_get n.2]
theorem wipeM_len : ∀ {own : List Nat} {σ : MS'}, (wipeM σ own).length = σ.length
  | [], σ => rfl
  | v :: vs, σ => by simp [wipeM, wipeM_len]
/-- own slots wiped; the other store may be any that agrees elsewhere -/
theorem St.wipe {own : List Nat} (S : St cl Z h σ μ r) (ho : ∀ i, i ∈ own → cl i = .sh) (hl : μ'.length = μ.length) (hm : ∀ i, i ∉ own → μ'[i]? = μ[i]?) : St cl Z h (wipeP σ own) μ' r := by
  have g : ∀ i v, (wipeP σ own)[i]? = some (some v) → i ∉ own ∧ σ[i]? = some (some v) := fun i v e => by
    rw [wipeP_get] at e
    split at e
    · split at e <;> cases e
    · exact ⟨by assumption, e⟩
  refine ⟨by rw [wipeP_len, S.len, hl], fun i v c e => ?_, fun i v c e => ?_, S.rt, S.inj, S.zb⟩
  · obtain ⟨n, e⟩ := g i v e
    rw [hm i n]
    exact S.sh i v c e
  · obtain ⟨n, e⟩ := g i v e
    rw [hm i n]
    exact S.ow i v c e
theorem Fr.wipe {own : List Nat} (S : St cl Z h σ μ r) (ho : ∀ i, i ∈ own → cl i = .sh) : Fr Z h σ r Z h (wipeP σ own) r :=
  ⟨fun _ z => z, Nat.le_refl _, fun _ _ e _ => e, fun _ z => .inl z, fun i e => by
    rw [wipeP_get, if_neg]
    · exact e
    · intro z
      obtain ⟨m, _, y⟩ := S.sh i _ (ho i z) e
      cases y⟩
theorem restP_len {σ0 : PS} : ∀ {own : List Nat} {σ : PS}, (restP σ0 own σ).length = σ.length
  | [], σ => rfl
  | v :: vs, σ => by simp [restP, restP_len]
theorem restP_get {σ0 : PS} : ∀ {own : List Nat} {σ : PS} {i : Nat}, (restP σ0 own σ)[i]? = if i ∈ own then (if i < σ.length then some (σ0[i]?).join else none) else σ[i]?
  | [], σ, i => by simp [restP]
  | v :: vs, σ, i => by
    simp only [restP]
    by_cases c : i = v
    · subst c
      by_cases lt : i < σ.length
      · rw [List.getElem?_set_self (by rw [restP_len]; exact lt)]; simp [lt]
      · rw [List.getElem?_eq_none (by rw [List.length_set, restP_len]; omega)]; simp [lt]
    · rw [List.getElem?_set_ne (fun z => c z.symm), restP_get]
      simp [c]
theorem St.rest {own : List Nat} {σ0 : PS} (S : St cl Z h (wipeP σ own) μ r) (ho : ∀ i, i ∈ own → cl i = .sh) (h0 : ∀ (i : Nat) (v : PV), i ∈ own → σ0[i]? = some (some v) → ∃ m, μ[i]? = some (some m) ∧ Rd (NN Z r) h m v) : St cl Z h (restP σ0 own σ) μ r := by
  have g : ∀ i v, (restP σ0 own σ)[i]? = some (some v) → (i ∈ own ∧ σ0[i]? = some (some v)) ∨ (wipeP σ own)[i]? = some (some v) := fun i v e => by
    rw [restP_get] at e
    split at e
    · rename_i hi
      split at e
      · left
        refine ⟨hi, ?_⟩
        simp only [Option.some.injEq] at e
        cases q : σ0[i]? with
        | none => rw [q] at e; cases e
        | some x => rw [q] at e; simp at e; subst e; rfl
      · cases e
    · rename_i hi
      right
      rw [wipeP_get, if_neg hi]
      exact e
  refine ⟨by rw [restP_len, ← S.len, wipeP_len], fun i v c e => ?_, fun i v c e => ?_, S.rt, S.inj, S.zb⟩
  · rcases g i v e with ⟨a, b⟩ | b
    · exact h0 i v a b
    · exact S.sh i v c b
  · rcases g i v e with ⟨a, b⟩ | b
    · exact absurd (ho i a) c
    · exact S.ow i v c b
/-! ### a comprehension -/
theorem comp_ok' {it : It} {xs : List PV} {own : List Nat} {x y : PV} {stepM : MV → MH → R (Option MV)} {stepP : PV → PS → Q (Option PV)} (hm : ∀ N h, Ct N h m x → Ct N h n y → ∃ ms, it.items h = some ms ∧ Rds N h ms xs)
    (ho : ∀ i, i ∈ own → cl i = .sh) (hl : xs.length ≤ lineM)
    (hs : ∀ h σ r mv v, St cl Z h (wipeP σ own) μ r → Rd (NN Z r) h mv v → ∀ ov σ', stepP v σ = .ok ov σ' → ∃ om h' r', stepM mv h = .ok om h' ∧ St cl Z h' (wipeP σ' own) μ r' ∧ Fr Z h (wipeP σ own) r Z h' (wipeP σ' own) r' ∧
      match ov, om with
      | none, none => True
      | some v', some m' => Rd (NN Z r') h' m' v'
      | _, _ => False) :
    ∀ (rest pre : List PV) (i : Nat) (acc : List MV) (accP : List PV) (h : MH) (σ : PS) (r : Nat → Option Nat), xs = pre ++ rest → pre.length = i → St cl Z h (wipeP σ own) μ r → Src Z h r m x → Src Z h r n y → Rds (NN Z r) h acc accP → acc.length ≤ i →
      ∀ vs σ', compP stepP rest σ = .ok vs σ' → ∃ ms h' r', compGo it stepM rest.length i acc h = .ok ms h' ∧ St cl Z h' (wipeP σ' own) μ r' ∧ Fr Z h (wipeP σ own) r Z h' (wipeP σ' own) r' ∧ Rds (NN Z r') h' ms (accP ++ vs) := by
  intro rest
  induction rest with
  | nil =>
    intro pre i acc accP h σ r ex ei S sa sb ra la vs σ' e
    simp only [compP] at e
    cases e
    obtain ⟨ms, e1, e2⟩ := hm _ _ sa.ct sb.ct
    have : ms.length = i := by rw [e2.length, ex, ← ei]; simp
    refine ⟨acc, h, r, ?_, S, .refl, by simpa using ra⟩
    simp only [compGo, List.length_nil, doneI, e1, this, beq_self_eq_true, if_true]
  | cons v rest ih =>
    intro pre i acc accP h σ r ex ei S sa sb ra la vs σ' e
    simp only [compP] at e
    obtain ⟨ov, σ1, e1, e⟩ := qbind_ok e
    obtain ⟨ys, σ2, e2, e⟩ := qbind_ok e
    cases e
    obtain ⟨ms, f1, f2⟩ := hm _ _ sa.ct sb.ct
    have lx : ms.length = i + (rest.length + 1) := by rw [f2.length, ex, ← ei]; simp
    obtain ⟨mv, g1, g2⟩ := f2.get (i := i) (v := v) (by rw [ex, ← ei]; simp)
    have et : turnI it h i (rest.length + 1) = some mv := by simp only [turnI, f1, Option.bind_some, lx, if_true, g1]
    obtain ⟨om, h1, r1, q1, S1, F1, q2⟩ := hs h σ r mv v S g2 ov σ1 e1
    have sa1 := sa.step S F1
    have sb1 := sb.step S F1
    have ra1 := ra.mono F1.q
    have room : acc.length < lineM := by
      have : xs.length = i + (rest.length + 1) := by rw [ex, ← ei]; simp
      omega
    cases ov with
    | none =>
      cases om with
      | some _ => exact q2.elim
      | none =>
        obtain ⟨ms2, h2, r2, q3, S2, F2, q4⟩ := ih (pre ++ [v]) (i + 1) acc accP h1 σ1 r1 (by rw [ex]; simp) (by simp [ei]) S1 sa1 sb1 ra1 (by omega) ys _ e2
        exact ⟨ms2, h2, r2, by simp only [compGo, List.length_cons, et, q1, Mn.R.bind, q3], S2, F1.trans S1 F2, by simpa using q4⟩
    | some v' =>
      cases om with
      | none => exact q2.elim
      | some m' =>
        obtain ⟨ms2, h2, r2, q3, S2, F2, q4⟩ := ih (pre ++ [v]) (i + 1) (acc ++ [m']) (accP ++ [v']) h1 σ1 r1 (by rw [ex]; simp) (by simp [ei]) S1 sa1 sb1 (ra1.append (.cons q2 .nil)) (by simp; omega) ys _ e2
        exact ⟨ms2, h2, r2, by simp only [compGo, List.length_cons, et, q1, Mn.R.bind, room, if_true, q3], S2, F1.trans S1 F2, by simpa using q4⟩
end
end Mn

set_option autoImplicit false
set_option maxHeartbeats 2000000
/-! Pw: comprehensions, calls. -/
namespace Mn
open PySem L2
theorem lcOk_ok {cl : Nat → Cls} {tg : MT} {own : List Nat} (e : lcOk cl tg own = true) : (∀ i, i ∈ tg.slots → i ∈ own) ∧ ∀ i, i ∈ own → cl i = .sh := by
  simp only [lcOk, Bool.and_eq_true, List.all_eq_true, decide_eq_true_eq] at e
  exact ⟨fun i q => by simpa using e.1 i q, e.2⟩
theorem forceQ_ok {cl : Nat → Cls} {o : Opd} {σ σ' : PS} {v : PV} (e : forceQ cl o σ = .ok v σ') : ∃ o', force cl o σ = some (o', σ') ∧ v = o'.v := by
  unfold forceQ at e
  split at e
  · cases e; exact ⟨_, by assumption, rfl⟩
  · cases e
section
variable {X : CQ} {M : Cm} {a b elt : ME} {es ifs : List ME}
theorem se'_lc {tg : MT} {ik : IK} {own : List Nat} (ha : SE' X M a) (hb : SE' X M b) (hi : STs' X M ifs) (he : SE' X M elt) : SE' X M (.lc elt tg ik a b ifs own) := by
  intro Z h σ μ r S o σ' e
  simp only [evP] at e
  obtain ⟨oa, σ1, e1, e⟩ := qbind_ok e
  obtain ⟨ob, σ2, e2, e⟩ := qbind_ok e
  obtain ⟨m, h1, n, h2, r2, Z2, q1, q2, S2, F2, T1, T2⟩ := two_ok ha hb S e1 e2
  split at e
  · rename_i x y xs σ3 e3
    split at e
    · rename_i hc
      obtain ⟨vs, σ5, e5, e⟩ := qbind_ok e
      cases e
      unfold compQ at e5
      obtain ⟨vs4, σ4, e4, e5⟩ := qbind_ok e5
      cases e5
      simp only [Bool.and_eq_true, decide_eq_true_eq] at hc
      obtain ⟨hsl, hown⟩ := lcOk_ok hc.1
      obtain ⟨r3, Z3, Zm, S3, F3, sa, sb, z1, z2, ka, kb, eit, lk1, nl⟩ := src_ok S2 F2.zz T1 T2 e3
      obtain ⟨it, eq, hm⟩ := it_ok sa.ct sb.ct eit
      obtain ⟨mxs, f1, f2⟩ := hm _ _ sa.ct sb.ct
      have S3w := S3.wipe (μ' := μ) hown rfl (fun _ _ => rfl)
      obtain ⟨ms, h4, r4, q3, S4, F4, R4⟩ := comp_ok' (Z := Z3) (μ := μ) (own := own) (it := it) (m := m) (n := n) (x := x) (y := y) (cl := X.cl)
        (stepM := fun v h => lcStep (asgT tg v (wipeM μ own)) (fun σ h => evTs M ifs σ h) (fun σ h => evE M elt σ h) h) hm hown hc.2 (by
          intro h σ r mv v S g ov σ' e
          have Si : St X.cl Z3 h (wipeP σ own) (wipeM μ own) r := by
            have := S.wipe (μ' := wipeM μ own) hown wipeM_len (fun i n => wipeM_get n)
            have ww : wipeP (wipeP σ own) own = wipeP σ own := by
              apply List.ext_getElem?
              intro i
              rw [wipeP_get, wipeP_get, wipeP_len]
              split <;> rfl
            rw [ww] at this
            exact this
          unfold lcStepP at e
          split at e
          · rename_i σa ea
            obtain ⟨μ1, r1, g1, S1, F1, k1, d1, l1⟩ := asgq_ok tg Si g ea
            obtain ⟨b, σb, eb, e⟩ := qbind_ok e
            obtain ⟨hb', rb, g2, Sb, Fb⟩ := hi Z3 h σa μ1 r1 S1 b σb eb
            have back : ∀ {h σ r}, St X.cl Z3 h σ μ1 r → St X.cl Z3 h (wipeP σ own) μ r := fun s => s.wipe hown (by rw [l1, wipeM_len]) (fun i n => by rw [(d1 i (fun z => n (hsl i z))).1, wipeM_get n])
            have F1b := F1.trans S1 Fb
            cases b with
            | false =>
              cases e
              exact ⟨none, hb', rb, by simp only [lcStep, g1, g2, Mn.R.bind], back Sb, F1b.trans Sb (Fr.wipe Sb hown), trivial⟩
            | true =>
              dsimp only at e
              obtain ⟨yv, σc, ec, e⟩ := qbind_ok e
              cases e
              obtain ⟨oe, σd, ed, ec⟩ := qbind_ok ec
              obtain ⟨o', ef, rfl⟩ := forceQ_ok ec
              obtain ⟨me, he', re, Ze, g3, Se, Fe, Te⟩ := he Z3 hb' σb μ1 rb Sb oe σd ed
              obtain ⟨rf, Zf, Sf, Ff, Tf, nb⟩ := force_ok Se Fe.zz Te ef
              have Fef := Fe.trans Se Ff
              have Rv := Tf.frz Sf Fef.zz nb
              have Sw := Sf.weak Fef.zz
              have Fw := Fef.weak (Z2 := Z3) (fun _ z => z) Fef.zz
              exact ⟨some me, he', rf, by simp only [lcStep, g1, g2, g3, Mn.R.bind], back Sw, (F1b.trans Sb Fw).trans Sw (Fr.wipe Sw hown), Rv⟩
          · cases e)
        xs [] 0 [] [] h2 σ3 r3 rfl rfl S3w sa sb .nil (Nat.le_refl _) _ σ4 e4
      simp only [evE, q1, q2, Mn.R.bind, eq, f1]
      rw [f2.length, q3]
      simp only [List.nil_append] at R4
      have F34 := (Fr.wipe S3 hown).trans S3w F4
      have S4r := S4.rest (σ0 := σ3) hown fun i v hi ev => by
        obtain ⟨mm, g1, g2⟩ := S3.sh i v (hown i hi) ev
        exact ⟨mm, g1, F34.rd g2⟩
      have F34r : Fr Z3 h2 σ3 r3 Z3 h4 (restP σ3 own σ4) r4 := ⟨F34.zz, F34.len, F34.same, F34.nn, fun i z => by
        have := F34.lk i z
        rw [wipeP_get] at this
        rw [restP_get]
        split at this
        · split at this <;> cases this
        · rename_i hn; rw [if_neg hn]; exact this⟩
      obtain ⟨r5, S5, up⟩ := unsrc_ok S4r z1 z2 (ka.step S3 F34r (fun _ _ => rfl) z2) (kb.step S3 F34r (fun _ _ => rfl) (fun _ z => z))
      have F5 : Fr Z h σ r Z2 h4 (unlockO oa x (unlockO ob y (restP σ3 own σ4))) r5 := by
        have Fa := F2.trans S2 (F3.trans S3 F34r)
        refine ⟨F2.zz, Fa.len, Fa.same, fun a z => Fa.nn a (up a z), fun i z => ?_⟩
        exact unlock_lk nl (fun i z => (F3.trans S3 F34r).lk i z) i (F2.lk i z)
      exact RE.fin S5 F5 ⟨ms, rfl, R4.weak fun a z => up a (NN.weak F2.zz a z)⟩
    · cases e
  · cases e
end
/-! ### calls -/
inductive PF (N : Nat → Prop) (h : MH) : List PK → List MV → List PV → List (Option Nat) → Prop
  | nil : PF N h [] [] [] []
  | pl {m : MV} {v : PV} {ks : List PK} {ms : List MV} {vs : List PV} {ts : List (Option Nat)} : Rd N h m v → PF N h ks ms vs ts → PF N h (.pl :: ks) (m :: ms) (v :: vs) (none :: ts)
  | rt {k : PK} {t : Nat} {v : PV} {ks : List PK} {ms : List MV} {vs : List PV} {ts : List (Option Nat)} : k ≠ .pl → Rt N h t v → PF N h ks ms vs ts → PF N h (k :: ks) (.ref t :: ms) (v :: vs) (some t :: ts)
  | fz {k : PK} {m : MV} {v : PV} {ks : List PK} {ms : List MV} {vs : List PV} {ts : List (Option Nat)} : k ≠ .pl → (k = .io → isLD v = false) → Rd N h m v → PF N h ks ms vs ts → PF N h (k :: ks) (m :: ms) (v :: vs) (none :: ts)
/-- Z and the parameters' roots -/
def TN (Z : Nat → Prop) (ts : List (Option Nat)) : Nat → Prop := fun a => Z a ∨ some a ∈ ts
structure CallR (Z : Nat → Prop) (h : MH) (pk : List PK) (ms : List MV) (ts : List (Option Nat)) (o : Opd) (ios : List PV) (m : MV) (h' : MH) (Z' : Nat → Prop) : Prop where
  zz : ∀ a, Z a → Z' a
  zb : ∀ a, Z' a → a < h'.length
  zn : ∀ a, Z' a → Z a ∨ h.length ≤ a
  len : h.length ≤ h'.length
  same : ∀ a x, h[a]? = some x → some a ∉ ts → h'[a]? = some x
  pf : PF (TN Z' ts) h' pk ms ios ts
  res : match o with
    | .val v => Rd (TN Z' ts) h' m v
    | .own v => ∃ t, m = .ref t ∧ Z' t ∧ ¬ Z t ∧ Rt (TN Z' ts) h' t v
    | .bor _ => False
def CallOk (X : CQ) (call : Str → List MV → MH → R MV) : Prop := ∀ f pk fr, X.sig f = some (pk, fr) → ∀ vs o ios, X.call f vs = .ok o ios → ∀ Z h ms ts, PF (TN Z ts) h pk ms vs ts → (∀ a, Z a → a < h.length) → (ts.filterMap id).Nodup → (∀ t, some t ∈ ts → ¬ Z t) →
  ∃ m h' Z', call f ms h = .ok m h' ∧ CallR Z h pk ms ts o ios m h' Z'
section
variable {cl : Nat → Cls} {Z Z' Z1 Z2 Z0 : Nat → Prop} {h h' h1 h2 : MH} {σ σ' σ1 σ2 : PS} {μ μ' : MS'} {r r' r1 r2 : Nat → Option Nat} {o o' p : Opd} {m m' n : MV} {v : PV}
/-- how the arguments' variables are put back -/
inductive Lnk (cl : Nat → Cls) (μ : MS') (σ : PS) : List PK → List Opd → List MV → List (Option Nat) → Prop
  | nil : Lnk cl μ σ [] [] [] []
  | skip {k : PK} {o : Opd} {m : MV} {ks : List PK} {os : List Opd} {ms : List MV} {ts : List (Option Nat)} : (k = .pl ∨ o.isB = false) → Lnk cl μ σ ks os ms ts → Lnk cl μ σ (k :: ks) (o :: os) (m :: ms) (none :: ts)
  | bor {k : PK} {i : Nat} {m : MV} {ks : List PK} {os : List Opd} {ms : List MV} {t : Option Nat} {ts : List (Option Nat)} : k ≠ .pl → cl i ≠ .sh → μ[i]? = some (some m) → (k = .br → t = none → cl i = .bf ∨ ∀ a, m ≠ .ref a) → σ[i]? ≠ some (some PV.lck) → Lnk cl μ σ ks os ms ts → Lnk cl μ σ (k :: ks) (.bor i :: os) (m :: ms) (t :: ts)
theorem Lnk.mono (q : ∀ i : Nat, σ[i]? = some (some PV.lck) → σ1[i]? = some (some PV.lck)) {ks : List PK} {os : List Opd} {ms : List MV} {ts : List (Option Nat)} (x : Lnk cl μ σ1 ks os ms ts) : Lnk cl μ σ ks os ms ts := by
  induction x with
  | nil => exact .nil
  | skip a _ ih => exact .skip a ih
  | bor a b c d e _ ih => exact .bor a b c d (fun z => e (q _ z)) ih
theorem PF.weak {N N' : Nat → Prop} (q : ∀ a, N' a → N a) {ks : List PK} {ms : List MV} {vs : List PV} {ts : List (Option Nat)} (x : PF N h ks ms vs ts) : PF N' h ks ms vs ts := by
  induction x with
  | nil => exact .nil
  | pl a _ ih => exact .pl (a.weak q) ih
  | rt a b _ ih => exact .rt a (b.weak q) ih
  | fz a b c _ ih => exact .fz a b (c.weak q) ih
theorem TOs.grow {t : Nat} (n : ¬ Z t) {os : List Opd} {ms : List MV} (x : TOs cl Z0 Z h μ r os ms) : TOs cl (fun a => Z0 a ∨ a = t) Z h μ r os ms := by
  induction x with
  | nil => exact .nil
  | @cons o m os ms a _ ih =>
    refine .cons ?_ ih
    cases o with
    | val v => exact a
    | own v => obtain ⟨t', e, a1, a2, a3⟩ := a; exact ⟨t', e, a1, fun z => by
        rcases z with z | rfl
        · exact a2 z
        · exact n a1, a3⟩
    | bor i => exact a
theorem Rd.ref_ld {N : Nat → Prop} {h : MH} {a : Nat} {v : PV} (x : Rd N h (.ref a) v) : isLD v = true := by cases x <;> rfl
theorem Rd.nref_ld {N : Nat → Prop} {h : MH} {m : MV} {v : PV} (x : Rd N h m v) (n : ∀ a, m ≠ .ref a) : isLD v = false := by cases x <;> first | rfl | exact absurd rfl (n _)
theorem args_ok {ks : List PK} : ∀ {os : List Opd} {σ : PS} {vs : List PV} {σ1 : PS}, argsP cl ks os σ = some (vs, σ1) → ∀ {Z0 Z : Nat → Prop} {r : Nat → Option Nat} {ms : List MV}, St cl Z h σ μ r → (∀ a, Z0 a → Z a) → TOs cl Z0 Z h μ r os ms →
    ∃ r1 Z1 ts, St cl Z1 h σ1 μ r1 ∧ Fr Z h σ r Z1 h σ1 r1 ∧ (∀ t, some t ∈ ts → Z1 t ∧ ¬ Z t) ∧ (ts.filterMap id).Nodup ∧ PF (TN (NN Z0 r1) ts) h ks ms vs ts ∧ Lnk cl μ σ ks os ms ts := by
  induction ks with
  | nil =>
    intro os σ vs σ1 e Z0 Z r ms S z T
    cases os with
    | cons _ _ => simp [argsP] at e
    | nil =>
      cases T
      simp only [argsP, Option.some.injEq, Prod.mk.injEq] at e
      obtain ⟨rfl, rfl⟩ := e
      exact ⟨r, Z, [], S, .refl, fun t q => (by cases q), by simp, .nil, .nil⟩
  | cons k ks ih =>
    intro os σ vs σ1 e Z0 Z r ms S z T
    cases os with
    | nil => simp [argsP] at e
    | cons o os =>
      cases T with
      | @cons _ m _ ms a b =>
        have mapd : ∀ {σh : PS} {v : PV}, (argsP cl ks os σh).map (fun p => (v :: p.1, p.2)) = some (vs, σ1) → ∃ vs', argsP cl ks os σh = some (vs', σ1) ∧ vs = v :: vs' := fun {σh v} q => by
          cases y : argsP cl ks os σh with
          | none => rw [y] at q; cases q
          | some p => rw [y] at q; simp only [Option.map_some, Option.some.injEq, Prod.mk.injEq] at q; exact ⟨p.1, by rw [← q.2], q.1.symm⟩
        -- an argument taken as a value
        have plain : ∀ {o1 : Opd} {σh : PS} {vs' : List PV} {rh Zh}, k = .pl ∨ o.isB = false → St cl Zh h σh μ rh → Fr Z h σ r Zh h σh rh → TO cl Z0 Zh h μ rh o1 m → o1.isB = false → argsP cl ks os σh = some (vs', σ1) → vs = o1.v :: vs' →
            ∃ r1 Z1 ts, St cl Z1 h σ1 μ r1 ∧ Fr Z h σ r Z1 h σ1 r1 ∧ (∀ t, some t ∈ ts → Z1 t ∧ ¬ Z t) ∧ (ts.filterMap id).Nodup ∧ PF (TN (NN Z0 r1) ts) h (k :: ks) (m :: ms) vs ts ∧ Lnk cl μ σ (k :: ks) (o :: os) (m :: ms) ts ∨ (k = .io) := fun {o1 σh vs' rh Zh} hk Sh Fh To nb ea ev => by
          obtain ⟨r1, Z1, ts, S1, F1, ht, nd, pf, lk⟩ := ih ea Sh (fun a q => Fh.zz a (z a q)) (b.step S Fh)
          by_cases ki : k = .io
          · exact ⟨r, Z, [], .inr ki⟩
          refine ⟨r1, Z1, none :: ts, .inl ⟨S1, Fh.trans Sh F1, fun t q => ?_, by simpa using nd, ?_, .skip hk (lk.mono Fh.lk)⟩⟩
          · have := ht t (by simpa using q)
            exact ⟨this.1, fun y => this.2 (Fh.zz t y)⟩
          · have To1 := To.step Sh F1
            have rd : Rd (TN (NN Z0 r1) (none :: ts)) h m o1.v := by
              have sub : ∀ a, TN (NN Z0 r1) (none :: ts) a → NN Z1 r1 a := fun a y => by
                rcases y with (y | y) | y
                · exact .inl (F1.zz a (Fh.zz a (z a y)))
                · exact .inr y
                · exact .inl (ht a (by simpa using y)).1
              cases o1 with
              | val v => exact Rd.weak sub To1
              | bor i => cases nb
              | own v =>
                obtain ⟨t, e1, _, _, e2⟩ := To1
                obtain ⟨t', e3, a1, a2, _⟩ := To
                rw [e1] at e3
                cases e3
                subst e1
                refine (e2.weak sub).frz fun y => ?_
                rcases y with (y | ⟨i, y⟩) | y
                · exact a2 y
                · exact (S1.rt i t y).2.2 (F1.zz t a1)
                · exact (ht t (by simpa using y)).2 a1
            have pf' : PF (TN (NN Z0 r1) (none :: ts)) h ks ms vs' ts := pf.weak fun a y => by
              rcases y with y | y
              · exact .inl y
              · exact .inr (by simpa using y)
            subst ev
            by_cases kp : k = .pl
            · subst kp; exact .pl rd pf'
            · exact .fz kp (fun q => absurd q ki) rd pf'
        -- an argument that is a variable's own
        have shut : ∀ {i : Nat} {v : PV} {vs' : List PV}, o = .bor i → k ≠ .pl → (k = .io → isLD v = false → True) → (k = .br → (cl i ≠ .ow ∧ cl i ≠ .io) ∨ isLD v = true) → (k = .io → cl i ≠ .bf) → rdV σ i = some v → argsP cl ks os (σ.set i (some .lck)) = some (vs', σ1) → vs = v :: vs' →
            ∃ r1 Z1 ts, St cl Z1 h σ1 μ r1 ∧ Fr Z h σ r Z1 h σ1 r1 ∧ (∀ t, some t ∈ ts → Z1 t ∧ ¬ Z t) ∧ (ts.filterMap id).Nodup ∧ PF (TN (NN Z0 r1) ts) h (k :: ks) (m :: ms) vs ts ∧ Lnk cl μ σ (k :: ks) (o :: os) (m :: ms) ts := fun {i v vs'} eo kp _ kb kio er ea ev => by
          subst eo
          have el : lockO (.bor i) σ = some (v, σ.set i (some .lck)) := by simp only [lockO, er, Option.map_some]
          obtain ⟨rh, Zh, Sh, Fh, sh, kh, nh⟩ := lock_ok S z a el
          obtain ⟨c1, c2, c3⟩ := kh
          rcases c3 with ⟨t, rfl, d2, d3, d4⟩ | ⟨d1, d2⟩
          · have Tg := (b.grow (t := t) d3).step S Fh
            obtain ⟨r1, Z1, ts, S1, F1, ht, nd, pf, lk⟩ := ih ea Sh (fun a q => by
              rcases q with q | rfl
              · exact Fh.zz a (z a q)
              · exact d2) Tg
            refine ⟨r1, Z1, some t :: ts, S1, Fh.trans Sh F1, fun t' q => ?_, ?_, ?_, .bor kp c1 c2 (fun _ q => by cases q) (rdV_nlk er) (lk.mono Fh.lk)⟩
            · rcases List.mem_cons.mp q with q | q
              · cases q; exact ⟨F1.zz _ d2, d3⟩
              · exact ⟨(ht t' q).1, fun y => (ht t' q).2 (Fh.zz t' y)⟩
            · simp only [List.filterMap_cons, id, List.nodup_cons]
              refine ⟨fun q => ?_, nd⟩
              obtain ⟨x, q1, q2⟩ := List.mem_filterMap.mp q
              simp only [id] at q2
              subst q2
              exact (ht t q1).2 d2
            · subst ev
              refine .rt kp ?_ (pf.weak fun a y => ?_)
              · have := F1.rt (fun i z => (Sh.rt i t z).2.2 d2) d4
                refine this.weak fun a y => ?_
                rcases y with (y | y) | y
                · exact .inl (F1.zz a (Fh.zz a (z a y)))
                · exact .inr y
                · rcases List.mem_cons.mp y with y | y
                  · cases y; exact .inl (F1.zz _ d2)
                  · exact .inl (ht a y).1
              · rcases y with (y | y) | y
                · exact .inl (.inl (.inl y))
                · exact .inl (.inr y)
                · rcases List.mem_cons.mp y with y | y
                  · cases y; exact .inl (.inl (.inr rfl))
                  · exact .inr y
          · obtain ⟨r1, Z1, ts, S1, F1, ht, nd, pf, lk⟩ := ih ea Sh (fun a q => Fh.zz a (z a q)) (b.step S Fh)
            have ldio : k = .io → isLD v = false := fun q => by
              rcases d2 with d2 | d2
              · exact absurd d2 (kio q)
              · exact d2
            refine ⟨r1, Z1, none :: ts, S1, Fh.trans Sh F1, fun t' q => ?_, by simpa using nd, ?_, .bor kp c1 c2 (fun q _ => ?_) (rdV_nlk er) (lk.mono Fh.lk)⟩
            · have := ht t' (by simpa using q)
              exact ⟨this.1, fun y => this.2 (Fh.zz t' y)⟩
            · subst ev
              refine .fz kp ldio ((F1.rd d1).weak fun a y => ?_) (pf.weak fun a y => ?_)
              · rcases y with (y | y) | y
                · exact .inl (F1.zz a (Fh.zz a (z a y)))
                · exact .inr y
                · exact .inl (ht a (by simpa using y)).1
              · rcases y with y | y
                · exact .inl y
                · exact .inr (by simpa using y)
            · rcases d2 with d2 | d2
              · exact .inl d2
              · exact .inr fun a ea => by subst ea; rw [d1.ref_ld] at d2; cases d2
        cases k with
        | pl =>
          simp only [argsP] at e
          split at e
          · rename_i o1 σh e1
            obtain ⟨vs', e2, e3⟩ := mapd e
            obtain ⟨rh, Zh, Sh, Fh, Th, nb⟩ := force_ok S z a e1
            obtain ⟨r1, Z1, ts, q⟩ := plain (.inl rfl) Sh Fh Th nb e2 e3
            rcases q with q | q
            · exact ⟨r1, Z1, ts, q⟩
            · cases q
          · cases e
        | io =>
          cases o with
          | val _ => simp only [argsP] at e; cases e
          | own _ => simp only [argsP] at e; cases e
          | bor i =>
            simp only [argsP] at e
            split at e
            · rename_i hc
              split at e
              · rename_i v er
                obtain ⟨vs', e2, e3⟩ := mapd e
                exact shut rfl (by intro q; cases q) (fun _ _ => trivial) (fun q => by cases q) (fun _ q => by rw [q] at hc; rcases hc with hc | hc <;> cases hc) er e2 e3
              · cases e
            · cases e
        | br =>
          cases o with
          | val w =>
            simp only [argsP] at e
            obtain ⟨vs', e2, e3⟩ := mapd e
            obtain ⟨r1, Z1, ts, q⟩ := plain (.inr rfl) S .refl a rfl e2 e3
            rcases q with q | q
            · exact ⟨r1, Z1, ts, q⟩
            · cases q
          | own w =>
            simp only [argsP] at e
            obtain ⟨vs', e2, e3⟩ := mapd e
            obtain ⟨r1, Z1, ts, q⟩ := plain (.inr rfl) S .refl a rfl e2 e3
            rcases q with q | q
            · exact ⟨r1, Z1, ts, q⟩
            · cases q
          | bor i =>
            simp only [argsP] at e
            split at e
            · rename_i v er
              split at e
              · rename_i hc
                obtain ⟨vs', e2, e3⟩ := mapd e
                exact shut rfl (by intro q; cases q) (fun _ _ => trivial) (fun _ => hc) (fun q => by cases q) er e2 e3
              · cases e
            · cases e
/-- the arguments' variables put back -/
theorem backq_ok {N' : Nat → Prop} {ks : List PK} : ∀ {os : List Opd} {ms : List MV} {ios : List PV} {ts : List (Option Nat)} {Zb : Nat → Prop} {r : Nat → Option Nat}, Lnk cl μ σ1 ks os ms ts → St cl (TN Zb ts) h σ μ r → (∀ t, some t ∈ ts → ¬ Zb t) → (ts.filterMap id).Nodup → PF N' h ks ms ios ts → (∀ a, NN (TN Zb ts) r a → N' a) →
    ∃ r2, St cl Zb h (backP ks os ios σ) μ r2 ∧ (∀ a, NN Zb r2 a → NN (TN Zb ts) r a) := by
  induction ks with
  | nil =>
    intro os ms ios ts Zb r l S ht nd pf sub
    cases l
    exact ⟨r, S.weak fun a y => .inl y, NN.weak fun a y => .inl y⟩
  | cons k ks ih =>
    intro os ms ios ts Zb r l S ht nd pf sub
    cases l with
    | @skip _ o m _ os ms ts hk l =>
      have e1 : ∀ a, TN Zb ts a → TN Zb (none :: ts) a := fun a y => by
        rcases y with y | y
        · exact .inl y
        · exact .inr (List.mem_cons_of_mem _ y)
      have e2 : ∀ {v : PV} {ios : List PV}, backP (k :: ks) (o :: os) (v :: ios) σ = backP ks os ios σ := fun {v ios} => by
        rcases hk with rfl | hk
        · cases o <;> rfl
        · cases k <;> cases o <;> first | rfl | cases hk
      have go : ∀ {v : PV} {ios : List PV}, PF N' h ks ms ios ts → ∃ r2, St cl Zb h (backP (k :: ks) (o :: os) (v :: ios) σ) μ r2 ∧ (∀ a, NN Zb r2 a → NN (TN Zb (none :: ts)) r a) := fun {v ios} pf => by
        obtain ⟨r2, S2, f⟩ := ih l (S.weak e1) (fun t q => ht t (List.mem_cons_of_mem _ q)) (by simpa using nd) pf (fun a y => sub a (NN.weak e1 a y))
        rw [e2]
        exact ⟨r2, S2, fun a y => NN.weak e1 a (f a y)⟩
      cases pf with
      | pl a pf => exact go pf
      | fz a b c pf => exact go pf
    | @bor _ i m _ os ms t ts kp c1 c2 c3 nl l =>
      have bk : ∀ {v : PV} {ios : List PV}, backP (k :: ks) (.bor i :: os) (v :: ios) σ = (backP ks os ios σ).set i (some v) := fun {v ios} => by cases k <;> first | rfl | exact absurd rfl kp
      cases pf with
      | pl a pf => exact absurd rfl kp
      | @rt _ t v _ _ ios _ a b pf =>
        have e1 : ∀ x, TN (fun a => Zb a ∨ a = t) ts x → TN Zb (some t :: ts) x := fun x y => by
          rcases y with (y | rfl) | y
          · exact .inl y
          · exact .inr (List.mem_cons_self ..)
          · exact .inr (List.mem_cons_of_mem _ y)
        simp only [List.filterMap_cons, id, List.nodup_cons] at nd
        obtain ⟨r2, S2, f⟩ := ih (Zb := fun a => Zb a ∨ a = t) l (S.weak e1) (fun t' q y => by
          rcases y with y | rfl
          · exact ht t' (List.mem_cons_of_mem _ q) y
          · exact nd.1 (List.mem_filterMap.mpr ⟨_, q, rfl⟩)) nd.2 pf (fun a y => sub a (NN.weak e1 a y))
        rw [bk]
        have up : ∀ a, NN Zb (updR r2 i (some t)) a → NN (fun a => Zb a ∨ a = t) r2 a := fun a y => NN.upd (fun _ q => .inl q) (fun t' e => by cases e; exact .inl (.inr rfl)) a y
        refine ⟨_, S2.put (i := i) (ra := some t) (w := some v) (fun _ q => .inl q) rfl (fun _ _ => rfl) (fun v' e _ => by cases e; exact ⟨_, c2, fun c => absurd c c1, fun _ => .rt t rfl rfl (b.weak fun a y => sub a (NN.weak e1 a (f a (up a y))))⟩)
          (fun t' e => by cases e; exact ⟨c1, b.lt, ht t (List.mem_cons_self ..), .inl (.inr rfl)⟩), fun a y => NN.weak e1 a (f a (up a y))⟩
      | @fz _ _ v _ _ ios _ a b d pf =>
        have e1 : ∀ a, TN Zb ts a → TN Zb (none :: ts) a := fun a y => by
          rcases y with y | y
          · exact .inl y
          · exact .inr (List.mem_cons_of_mem _ y)
        obtain ⟨r2, S2, f⟩ := ih l (S.weak e1) (fun t q => ht t (List.mem_cons_of_mem _ q)) (by simpa using nd) pf (fun a y => sub a (NN.weak e1 a y))
        rw [bk]
        have up : ∀ a, NN Zb (updR r2 i none) a → NN Zb r2 a := fun a y => NN.upd (fun _ q => q) (fun t' e => by cases e) a y
        refine ⟨_, S2.put (i := i) (ra := none) (w := some v) (fun _ q => q) rfl (fun _ _ => rfl) (fun v' e _ => by
            cases e
            refine ⟨_, c2, fun c => absurd c c1, fun _ => .fz rfl (d.weak fun a y => sub a (NN.weak e1 a (f a (up a y)))) ?_⟩
            cases k with
            | pl => exact absurd rfl kp
            | io => exact .inr (b rfl)
            | br =>
              rcases c3 rfl rfl with c3 | c3
              · exact .inl c3
              · exact .inr (d.nref_ld c3)) (fun t' e => by cases e), fun a y => NN.weak e1 a (f a (up a y))⟩
theorem back_lk {ks : List PK} : ∀ {os : List Opd} {ms : List MV} {ios : List PV} {ts : List (Option Nat)}, Lnk cl μ σ1 ks os ms ts → ∀ i : Nat, σ1[i]? = some (some PV.lck) → σ[i]? = some (some PV.lck) → (backP ks os ios σ)[i]? = some (some PV.lck) := by
  induction ks with
  | nil => intro os ms ios ts l i e1 e2; cases l; cases ios <;> exact e2
  | cons k ks ih =>
    intro os ms ios ts l i e1 e2
    cases ios with
    | nil =>
      have : backP (k :: ks) os [] σ = σ := by
        cases os with
        | nil => cases k <;> rfl
        | cons o os => cases k <;> cases o <;> rfl
      rw [this]
      exact e2
    | cons v ios =>
      cases l with
      | @skip _ o _ _ os _ _ hk l =>
        have : backP (k :: ks) (o :: os) (v :: ios) σ = backP ks os ios σ := by
          rcases hk with rfl | hk
          · cases o <;> rfl
          · cases k <;> cases o <;> first | rfl | cases hk
        rw [this]
        exact ih l i e1 e2
      | @bor _ j _ _ os _ _ _ kp c1 c2 c3 nl l =>
        have : backP (k :: ks) (.bor j :: os) (v :: ios) σ = (backP ks os ios σ).set j (some v) := by cases k <;> first | rfl | exact absurd rfl kp
        rw [this, List.getElem?_set_ne (fun q => by subst q; exact nl e1)]
        exact ih l i e1 e2
end
theorem se'_call {X : CQ} {M : Cm} {es : List ME} {f : Str} (hc : CallOk X M.call) (hs : SEs' X M es) : SE' X M (.call f es) := by
  intro Z h σ μ r S o σ' e
  simp only [evP] at e
  obtain ⟨os, σ1, e1, e⟩ := qbind_ok e
  obtain ⟨ms, h1, r1, Z1, q1, S1, F1, T⟩ := hs Z h σ μ r S os σ1 e1
  simp only [evE, q1, Mn.R.bind]
  unfold callP at e
  split at e
  · rename_i pk fr es
    split at e
    · rename_i vs σ2 e2
      obtain ⟨r2, Z2, ts, S2, F2, ht, nd, pf, lk⟩ := args_ok e2 S1 F1.zz T
      split at e
      · rename_i o' ios e3
        cases e
        have zb : ∀ a, NN Z r2 a → a < h1.length := fun a y => by
          rcases y with y | ⟨i, y⟩
          · exact S1.zb a (F1.zz a y)
          · exact (S2.rt i a y).2.1
        have nt : ∀ t, some t ∈ ts → ¬ NN Z r2 t := fun t q y => by
          rcases y with y | ⟨i, y⟩
          · exact (ht t q).2 (F1.zz t y)
          · exact (S2.rt i t y).2.2 (ht t q).1
        obtain ⟨m, h3, Zc, q3, C⟩ := hc f pk fr es vs o ios e3 (NN Z r2) h1 ms ts pf zb nd nt
        -- what is new
        let Zf : Nat → Prop := fun a => Z a ∨ (Zc a ∧ ¬ NN Z r2 a)
        have fresh : ∀ a, Zc a → ¬ NN Z r2 a → h1.length ≤ a := fun a y n => by
          rcases C.zn a y with w | w
          · exact absurd w n
          · exact w
        have roots : ∀ t, some t ∈ ts → ∃ i, r1 i = some t := fun t q => by
          rcases F2.nn t (.inl (ht t q).1) with y | y
          · rcases y with y | y
            · exact absurd y (ht t q).2
            · exact y
          · have := S2.zb t (ht t q).1; omega
        have w2 : ∀ a x, ¬ NN Z2 r2 a → h1[a]? = some x → ¬ NN (TN Zf ts) r2 a ∧ h3[a]? = some x := fun a x n ex => by
          refine ⟨fun y => ?_, C.same a x ex fun y => n (.inl (ht a y).1)⟩
          rcases y with ((y | y) | y) | y
          · exact n (.inl (F2.zz a (F1.zz a y)))
          · have := fresh a y.1 y.2; have := get_lt ex; omega
          · exact n (.inl (ht a y).1)
          · exact n (.inr y)
        have S3 : St X.cl (TN Zf ts) h3 σ2 μ r2 := by
          refine ⟨S2.len, fun i v c e => ?_, fun i v c e => ?_, fun i a e => ⟨(S2.rt i a e).1, Nat.lt_of_lt_of_le (S2.rt i a e).2.1 C.len, fun y => ?_⟩, S2.inj, fun a y => ?_⟩
          · obtain ⟨m, f1, f2⟩ := S2.sh i v c e
            exact ⟨m, f1, f2.mono w2⟩
          · obtain ⟨m, f1, f2⟩ := S2.ow i v c e
            refine ⟨m, f1, f2.mono w2 fun t et => ?_⟩
            have lt := (S2.rt i t et).2.1
            rw [List.getElem?_eq_getElem lt]
            exact C.same t _ (List.getElem?_eq_getElem lt) fun y => (S2.rt i t et).2.2 (ht t y).1
          · rcases y with (y | y) | y
            · exact (S2.rt i a e).2.2 (F2.zz a (F1.zz a y))
            · exact y.2 (.inr ⟨i, e⟩)
            · exact (S2.rt i a e).2.2 (ht a y).1
          · rcases y with (y | y) | y
            · exact Nat.lt_of_lt_of_le (S1.zb a (F1.zz a y)) C.len
            · exact C.zb a y.1
            · exact Nat.lt_of_lt_of_le (S2.zb a (ht a y).1) C.len
        have sub : ∀ a, NN (TN Zf ts) r2 a → TN Zc ts a := fun a y => by
          rcases y with ((y | y) | y) | y
          · exact .inl (C.zz a (.inl y))
          · exact .inl y.1
          · exact .inr y
          · exact .inl (C.zz a (.inr y))
        obtain ⟨r3, S4, up⟩ := backq_ok lk S3 (fun t q y => by
          rcases y with y | y
          · exact (ht t q).2 (F1.zz t y)
          · have := fresh t y.1 y.2; have := S2.zb t (ht t q).1; omega) nd C.pf sub
        have F3 : Fr Z h σ r Zf h3 (backP pk os ios σ2) r3 := by
          refine ⟨fun a y => .inl y, Nat.le_trans F1.len C.len, fun a x ex n => ?_, fun a y => ?_, fun i z => back_lk (lk.mono fun j q => q) i (F1.lk i z) ((F1.trans S1 F2).lk i z)⟩
          · refine C.same a x (F1.same a x ex n) fun y => ?_
            obtain ⟨i, y⟩ := roots a y
            rcases F1.nn a (.inr ⟨i, y⟩) with w | w
            · rcases w with w | ⟨j, w⟩
              · exact (S1.rt i a y).2.2 (F1.zz a w)
              · exact n j w
            · have := get_lt ex; omega
          · have y' := up a y
            have F12 := F1.trans S1 F2
            rcases y' with ((y | y) | y) | y
            · exact .inl (.inl y)
            · exact .inr (Nat.le_trans F1.len (fresh a y.1 y.2))
            · exact F12.nn a (.inl (ht a y).1)
            · exact F12.nn a (.inr y)
        have toN : ∀ a, NN Zf r3 a → TN Zc ts a := fun a y => sub a (up a y)
        refine ⟨m, h3, r3, Zf, q3, S4, F3, ?_⟩
        have res := C.res
        cases o with
        | val v => exact Rd.weak toN res
        | bor i => exact res.elim
        | own v =>
          obtain ⟨t, e, a, b, c⟩ := res
          exact ⟨t, e, .inr ⟨a, b⟩, fun y => b (.inl y), c.weak toN⟩
      · cases e
      · cases e
    · cases e
  · cases e
/-! ### refusals -/
def ExR (p : Option (Str × List PV × Nat)) (m : Option (Str × List MV × Nat)) : Prop := match p, m with
  | none, none => True
  | some (c, fs, k), some (c', ms, k') => c = c' ∧ k = k' ∧ ∀ (N : Nat → Prop) (h : MH), Rds N h ms fs
  | _, _ => False
def CallEOk (X : CQ) (M : Cm) : Prop := ∀ f c fs ms o ios, (∀ (N : Nat → Prop) (h : MH), Rds N h ms fs) → X.callE f c fs = .ok o ios → ∀ (N : Nat → Prop) (h : MH), (∀ a, N a → a < h.length) →
  ∃ (v : PV) (m : MV) (h' : MH), o = .val v ∧ M.callE f c ms h = .ok m h' ∧ h.length ≤ h'.length ∧ (∀ (a : Nat) x, h[a]? = some x → h'[a]? = some x) ∧ Rd N h' m v
theorem mbind_ok {α β : Type} {r : R α} {f : α → MH → R β} {b : β} {h : MH} (e : r.bind f = .ok b h) : ∃ a h1, r = .ok a h1 ∧ f a h1 = .ok b h := by
  cases r with
  | ok a h1 => exact ⟨a, h1, rfl, e⟩
  | exc _ _ _ => cases e
  | bad => cases e
theorem exR_at {X : CQ} {M : Cm} {k : Nat} {c : Str} {fs : List PV} (hx : ExR X.ex M.ex) (e : X.at k = some (c, fs)) : ∃ ms, M.at k = some (c, ms) ∧ ∀ (N : Nat → Prop) (h : MH), Rds N h ms fs := by
  unfold CQ.at at e
  unfold Cm.at
  cases hp : X.ex with
  | none => rw [hp] at e; cases e
  | some p =>
    obtain ⟨c1, fs1, k1⟩ := p
    cases hm : M.ex with
    | none => rw [hp, hm] at hx; exact hx.elim
    | some q =>
      obtain ⟨c2, ms2, k2⟩ := q
      rw [hp, hm] at hx
      obtain ⟨rfl, rfl, hr⟩ := hx
      rw [hp] at e
      dsimp only at e ⊢
      split at e
      · rename_i hk
        cases e
        rw [if_pos hk]
        exact ⟨_, rfl, hr⟩
      · cases e
theorem decO_none {o : Opd} {m : MV} {cl : Nat → Cls} {Z Z' : Nat → Prop} {h : MH} {μ : MS'} {r : Nat → Option Nat} (T : TO cl Z Z' h μ r o m) (e : decO o = some none) : decX m = none := by
  cases o with
  | val v => simp only [decO, Option.some.injEq] at e; exact dec_none T e
  | own v => obtain ⟨t, rfl, _⟩ := T; rfl
  | bor i => cases e
theorem decO_some {o : Opd} {m : MV} {cl : Nat → Cls} {Z Z' : Nat → Prop} {h : MH} {μ : MS'} {r : Nat → Option Nat} {c : Str} {fs : List PV} (T : TO cl Z Z' h μ r o m) (e : decO o = some (some (c, fs))) :
    ∃ ms, decX m = some (c, ms) ∧ (∀ (N : Nat → Prop) (h : MH), Rds N h ms fs) ∧ o = .val (encXP c fs) := by
  cases o with
  | val v =>
    simp only [decO, Option.some.injEq] at e
    obtain ⟨ms, h1, h2, h3, rfl⟩ := dec_some T e
    exact ⟨ms, h1, fun N h => flat_rds h2 h3, rfl⟩
  | own v => cases e
  | bor i => cases e
theorem se'_callN {X : CQ} {M : Cm} {es : List ME} {f : Str} (hc : CallOk X M.call) (hs : SEs' X M es) : SE' X M (.callN f es) := by
  intro Z h σ μ r S o σ' e
  simp only [evP] at e
  obtain ⟨os, σ1, e1, e⟩ := qbind_ok e
  obtain ⟨o1, σ2, e2, e⟩ := qbind_ok e
  split at e
  · rename_i hd
    cases e
    obtain ⟨m, h1, r1, Z1, q1, S1, F1, T1⟩ := se'_call (f := f) hc hs Z h σ μ r S o σ' (by simp only [evP, e1, Q.bind, e2])
    simp only [evE] at q1
    obtain ⟨ms, h2, q2, q3⟩ := mbind_ok q1
    refine ⟨m, h1, r1, Z1, ?_, S1, F1, T1⟩
    simp only [evE, q2, Mn.R.bind, q3, decO_none T1 hd]
  · cases e
theorem se'_isX {X : CQ} {M : Cm} {k : Nat} {cs : List Str} (hx : ExR X.ex M.ex) : SE' X M (.isX k cs) := by
  intro Z h σ μ r S o σ' e
  simp only [evP] at e
  split at e
  · rename_i c fs hat
    obtain ⟨ms, h1, _⟩ := exR_at hx hat
    obtain ⟨b, e2, rfl, rfl⟩ := oB_ok e
    simp only [evE, h1, e2, ofB]
    exact RE.val S .refl (.bl _)
  · cases e
theorem oV_ok' {o : Option PV} {σ σ' : PS} {p : Opd} (e : oV o σ = .ok p σ') : ∃ v, o = some v ∧ p = .val v ∧ σ' = σ := by
  cases o with
  | none => cases e
  | some v => cases e; exact ⟨v, rfl, rfl, rfl⟩
theorem se'_fldX {X : CQ} {M : Cm} {k : Nat} {x : Str} (hx : ExR X.ex M.ex) : SE' X M (.fldX k x) := by
  intro Z h σ μ r S o σ' e
  simp only [evP] at e
  split at e
  · rename_i c fs hat
    obtain ⟨ms, h1, hr⟩ := exR_at hx hat
    obtain ⟨v, e2, rfl, rfl⟩ := oV_ok' e
    obtain ⟨m, e3, rm⟩ := fld_ok (hr (NN Z r) h) e2
    simp only [evE, h1, e3, ofO]
    exact RE.val S .refl rm
  · cases e
theorem se'_callE {X : CQ} {M : Cm} {k : Nat} {f : Str} (hx : ExR X.ex M.ex) (hE : CallEOk X M) : SE' X M (.callE f k) := by
  intro Z h σ μ r S o σ' e
  simp only [evP] at e
  split at e
  · rename_i c fs hat
    obtain ⟨ms, h1, hr⟩ := exR_at hx hat
    split at e
    · rename_i o' ios e2
      cases e
      obtain ⟨v, m, h', rfl, e3, hl, hsame, rd⟩ := hE f c fs ms _ _ hr e2 (NN Z r) h fun a y => by
        rcases y with y | ⟨i, y⟩
        · exact S.zb a y
        · exact (S.rt i a y).2.1
      have w : ∀ a x, ¬ NN Z r a → h[a]? = some x → ¬ NN Z r a ∧ h'[a]? = some x := fun a x n ex => ⟨n, hsame a x ex⟩
      refine ⟨m, h', r, Z, by simp only [evE, h1, e3], ⟨S.len, fun i v c e => ?_, fun i v c e => ?_, fun i a e => ⟨(S.rt i a e).1, Nat.lt_of_lt_of_le (S.rt i a e).2.1 hl, (S.rt i a e).2.2⟩, S.inj, fun a y => Nat.lt_of_lt_of_le (S.zb a y) hl⟩,
        ⟨fun a y => y, hl, fun a x ex _ => hsame a x ex, fun a y => .inl y, fun i z => z⟩, rd⟩
      · obtain ⟨m, f1, f2⟩ := S.sh i v c e
        exact ⟨m, f1, f2.mono w⟩
      · obtain ⟨m, f1, f2⟩ := S.ow i v c e
        refine ⟨m, f1, f2.mono w fun t et => ?_⟩
        have lt := (S.rt i t et).2.1
        rw [List.getElem?_eq_getElem lt]
        exact hsame t _ (List.getElem?_eq_getElem lt)
    · cases e
  · cases e
/-! ### all expressions -/
section
variable {X : CQ} {M : Cm} (hc : CallOk X M.call) (hg : M.gl = X.gl) (hx : ExR X.ex M.ex) (hE : CallEOk X M)
include hc hg hx hE
mutual
theorem se' : ∀ e : ME, SE' X M e
  | .c v => se'_c
  | .var i => se'_var
  | .glb x => se'_glb hg
  | .tup es => se'_tup (ses' es)
  | .lst es => se'_lst (ses' es)
  | .bin op a b => se'_bin (se' a) (se' b)
  | .neg a => se'_neg (se' a)
  | .not_ a => se'_not (se' a)
  | .cmp op a b => se'_cmp (se' a) (se' b)
  | .chain o1 o2 a b c => se'_chain (se' a) (se' b) (se' c)
  | .and_ a b => se'_and (se' a) (se' b)
  | .or_ a b => se'_or (se' a) (se' b)
  | .ife c a b => se'_ife (se' c) (se' a) (se' b)
  | .ix a b => se'_ix (se' a) (se' b)
  | .sl a => se'_sl (se' a)
  | .slL a b => se'_slL (se' a) (se' b)
  | .slH a b => se'_slH (se' a) (se' b)
  | .slB a b c => se'_slB (se' a) (se' b) (se' c)
  | .rev a => se'_rev (se' a)
  | .call f es => se'_call hc (ses' es)
  | .blt b es => se'_blt (ses' es)
  | .meth m a es => se'_meth (se' a) (ses' es)
  | .isi a t => se'_isi (se' a)
  | .dsp es => se'_dsp (ses' es)
  | .rngL a b => se'_rngL (se' a) (se' b)
  | .rngT a b => se'_rngT (se' a) (se' b)
  | .lc elt tg ik a b ifs own => se'_lc (se' a) (se' b) (sts' ifs) (se' elt)
  | .srtS a => se'_srtS (se' a)
  | .lenS a => se'_lenS (se' a)
  | .callN f es => se'_callN hc (ses' es)
  | .isX k cs => se'_isX hx
  | .fldX k x => se'_fldX hx
  | .callE f k => se'_callE hx hE
theorem ses' : ∀ es : List ME, SEs' X M es
  | [] => ses'_nil
  | e :: es => ses'_cons (se' e) (ses' es)
theorem sts' : ∀ es : List ME, STs' X M es
  | [] => sts'_nil
  | e :: es => sts'_cons (se' e) (sts' es)
end
end
end Mn

set_option autoImplicit false
set_option maxHeartbeats 2000000
/-! Px: statements and functions over trees. -/
namespace Mn
open PySem L2
def RS (cl : Nat → Cls) (Z : Nat → Prop) (h : MH) (σ : PS) (μ : MS') (r : Nat → Option Nat) (fl : FlP) (σ' : PS) (R0 : R Fl) : Prop :=
  ∃ mf h' μ' r' Z', R0 = .ok mf h' ∧ St cl Z' h' σ' μ' r' ∧ Fr Z h σ r Z' h' σ' r' ∧ lkμ cl σ μ μ' ∧ (match fl with
    | .nx => mf = .nx μ' ∧ Z' = Z
    | .brk => mf = .brk μ' ∧ Z' = Z
    | .cont => mf = .cont μ' ∧ Z' = Z
    | .ret o => ∃ m, mf = .ret m ∧ TO cl Z Z' h' μ' r' o m ∧ o.isB = false)
def SS' (X : CQ) (M : Cm) (s : MS) : Prop := ∀ Z h σ μ r, St X.cl Z h σ μ r → ∀ fl σ', evT X s σ = .ok fl σ' → RS X.cl Z h σ μ r fl σ' (evS M s μ h)
def SSs' (X : CQ) (M : Cm) (ss : List MS) : Prop := ∀ Z h σ μ r, St X.cl Z h σ μ r → ∀ fl σ', evTs' X ss σ = .ok fl σ' → RS X.cl Z h σ μ r fl σ' (evSs M ss μ h)
section
variable {cl : Nat → Cls} {Z Z' Z1 Z2 Z0 : Nat → Prop} {h h' h1 h2 : MH} {σ σ' σ1 σ2 : PS} {μ μ' μ1 : MS'} {r r' r1 r2 : Nat → Option Nat} {o o' p : Opd} {m m' n : MV} {v : PV} {R0 : R Fl} {fl : FlP}
theorem RS.after (S1 : St cl Z h1 σ1 μ1 r1) (F1 : Fr Z h σ r Z h1 σ1 r1) (k : lkμ cl σ μ μ1) (x : RS cl Z h1 σ1 μ1 r1 fl σ2 R0) : RS cl Z h σ μ r fl σ2 R0 := by
  obtain ⟨mf, h', μ', r', Z', e, S, F, k2, q⟩ := x
  exact ⟨mf, h', μ', r', Z', e, S, F1.trans S1 F, k.trans F1.lk k2, q⟩
theorem RS.nx (S1 : St cl Z h1 σ1 μ1 r1) (F1 : Fr Z h σ r Z h1 σ1 r1) (k : lkμ cl σ μ μ1) : RS cl Z h σ μ r .nx σ1 (.ok (.nx μ1) h1) := ⟨_, h1, μ1, r1, Z, rfl, S1, F1, k, rfl, rfl⟩
theorem RS.ret (S1 : St cl Z1 h1 σ1 μ r1) (F1 : Fr Z h σ r Z1 h1 σ1 r1) (T : TO cl Z Z1 h1 μ r1 o m) (nb : o.isB = false) : RS cl Z h σ μ r (.ret o) σ1 (.ok (.ret m) h1) := ⟨_, h1, μ, r1, Z1, rfl, S1, F1, fun _ _ => rfl, m, rfl, T, nb⟩
theorem wk0 (S1 : St cl Z1 h1 σ1 μ r1) (F1 : Fr Z h σ r Z1 h1 σ1 r1) : St cl Z h1 σ1 μ r1 ∧ Fr Z h σ r Z h1 σ1 r1 := ⟨S1.weak F1.zz, F1.weak (fun _ z => z) F1.zz⟩
/-- a name is given what was told -/
theorem asgO_ok {tg : MT} (S : St cl Z' h σ μ r) (z : ∀ a, Z a → Z' a) (T : TO cl Z Z' h μ r o m) (e : asgO cl tg o σ = some σ') :
    ∃ μ' r', asgT tg m μ = some μ' ∧ St cl Z h σ' μ' r' ∧ Fr Z' h σ r Z' h σ r ∧ (∀ a, NN Z r' a → NN Z' r a) ∧ (∀ i : Nat, σ[i]? = some (some PV.lck) → σ'[i]? = some (some PV.lck)) ∧ lkμ cl σ μ μ' := by
  have vcase : ∀ {v : PV}, Rd (NN Z r) h m v → asgP cl tg v σ = some σ' → ∃ μ' r', asgT tg m μ = some μ' ∧ St cl Z h σ' μ' r' ∧ Fr Z' h σ r Z' h σ r ∧ (∀ a, NN Z r' a → NN Z' r a) ∧ (∀ i : Nat, σ[i]? = some (some PV.lck) → σ'[i]? = some (some PV.lck)) ∧ lkμ cl σ μ μ' := fun {v} q e => by
    obtain ⟨μ', r', e1, S1, F1, k, _, _⟩ := asgq_ok tg (S.weak z) q e
    refine ⟨μ', r', e1, S1, .refl, fun a y => ?_, F1.lk, k⟩
    rcases F1.nn a y with w | w
    · exact NN.weak z a w
    · rcases y with y | ⟨i, y⟩
      · have := S1.zb a y; omega
      · have := (S1.rt i a y).2.1; omega
  cases o with
  | bor i => simp only [asgO] at e; cases e
  | val v =>
    have e' : asgP cl tg v σ = some σ' := by cases tg <;> exact e
    exact vcase (T.frz S z rfl) e'
  | own v =>
    cases tg with
    | tp ts => simp only [asgO] at e; cases e
    | nm i =>
      simp only [asgO] at e
      split at e
      · rename_i hc
        exact vcase (v := v) (T.frz S z rfl) (by simp only [asgP, hc]; exact e)
      · rename_i hc
        split at e
        · cases e
        · rename_i nl
          cases e
          obtain ⟨t, rfl, a1, a2, a3⟩ := T
          have up : ∀ a, NN Z (updR r i (some t)) a → NN Z' r a := fun a y => NN.upd z (fun t' e => by cases e; exact .inl a1) a y
          have S2 := S.put (Z := Z) (i := i) (ra := some t) (w := some v) (μ' := μ.set i (some (.ref t))) z (by simp) (fun j n => List.getElem?_set_ne (fun z => n z.symm)) (fun v' ev lt => by
            cases ev; exact ⟨_, List.getElem?_set_self lt, fun c => (by rw [hc] at c; cases c), fun n => .rt t rfl rfl (a3.weak up)⟩) (fun t' et => by cases et; exact ⟨fun c => (by rw [hc] at c; cases c), a3.lt, a2, .inl a1⟩)
          refine ⟨_, _, rfl, S2, .refl, up, set_lk (.inl nl), fun j z => ?_⟩
          rw [List.getElem?_set_ne]; intro c; subst c; rcases z with z | z | z | z
          · exact nl z
          all_goals (rw [hc] at z; cases z)
      · cases e
theorem force_ok2 (S : St cl Z' h σ μ r) (z : ∀ a, Z a → Z' a) (x : TO cl Z Z' h μ r o m) (e : force cl o σ = some (o', σ')) :
    ∃ r2 Z2, St cl Z2 h σ' μ r2 ∧ Fr Z' h σ r Z2 h σ' r2 ∧ TO cl Z Z2 h μ r2 o' m ∧ o'.isB = false := force_ok S z x e
end
section
variable {X : CQ} {M : Cm} {a b c : ME} {s : MS} {ss ts : List MS}
theorem ss'_asg {tg : MT} (ha : SE' X M a) : SS' X M (.asg tg a) := by
  intro Z h σ μ r S fl σ' e
  simp only [evT] at e
  obtain ⟨o, σ1, e1, e⟩ := qbind_ok e
  obtain ⟨m, h1, r1, Z1, q1, S1, F1, T1⟩ := ha Z h σ μ r S o σ1 e1
  unfold asgF at e
  split at e
  · rename_i σ3 e2
    cases e
    split at e2
    · rename_i o2 σ2 e3
      obtain ⟨r2, Z2, S2, F2, T2, nb⟩ := force_ok S1 F1.zz T1 e3
      have F12 := F1.trans S1 F2
      obtain ⟨μ', r', e4, S3, _, up, lk, k⟩ := asgO_ok S2 F12.zz T2 e2
      simp only [evS, q1, Mn.R.bind, e4, Option.map_some, ofO]
      exact RS.nx S3 ⟨fun _ z => z, F12.len, F12.same, fun a y => F12.nn a (up a y), fun i z => lk i (F12.lk i z)⟩ fun i z => k i (z.imp (F12.lk i) id)
    · cases e2
  · cases e
theorem ss'_asgSub (ha : SE' X M a) (hb : SE' X M b) (hc : SE' X M c) : SS' X M (.asgSub a b c) := by
  intro Z h σ μ r S fl σ' e
  simp only [evT] at e
  obtain ⟨oe, σ1, e1, e⟩ := qbind_ok e
  obtain ⟨ob, σ2, e2, e⟩ := qbind_ok e
  obtain ⟨oi, σ3, e3, e⟩ := qbind_ok e
  obtain ⟨m, h1, r1, Z1, q1, S1, F1, T1⟩ := hc Z h σ μ r S oe σ1 e1
  obtain ⟨n, h2, k, h3, r3, Z3, q2, q3, S3, F3, T2, T3⟩ := two_ok ha hb S1 e2 e3
  split at e
  · rename_i v σ4 e4
    have F13 := F1.trans S1 F3
    obtain ⟨r4, Z4, S4, F4, T4, nb⟩ := force_ok S3 F13.zz (T1.step S1 F3) e4
    have F14 := F13.trans S3 F4
    cases ob with
    | val _ => cases e
    | own _ => cases e
    | bor j =>
    cases e5 : lookO σ4 oi with
    | none => rw [e5] at e; cases e
    | some y =>
      rw [e5] at e
      dsimp only at e
      split at e
      · rename_i hcan
        split at e
        · rename_i x' e6
          cases e
          cases q : rdV σ4 j with
          | none => rw [q] at e6; cases e6
          | some x =>
            rw [q] at e6
            have e6' : setV x y v.v = some x' := e6
            obtain ⟨Sz, Fz⟩ := wk0 S4 F14
            have ld : isLD x = true := by cases x <;> first | rfl | cases e6'
            obtain ⟨t, rt1, rfl, rt2⟩ := Sz.root hcan q T2.2 ld
            have cy := ((T3.base F1.zz).step S3 F4).ct S4 F14.zz e5
            obtain ⟨ob', e7, e8⟩ := set_ok rt2 cy (T4.frz S4 F14.zz nb) e6'
            have Fm : Fr Z h3 σ4 r4 Z (h3.set t ob') (σ4.set j (some x')) r4 := Fr.mut rt1 (rdV_nlk q)
            simp only [evS, q1, q2, q3, Mn.R.bind, e7]
            exact RS.nx (Sz.mut rt1 T2.2 (by
              rcases e8 with ⟨ns, ws, a1, a2, a3⟩ | ⟨ns, ws, a1, a2, a3⟩
              · exact .inl ⟨ns, ws, a1, a2, a3⟩
              · exact .inr ⟨ns, ws, a1, a2, a3⟩)) (Fz.trans Sz Fm) fun _ _ => rfl
        · cases e
      · cases e
  · cases e
theorem ss'_expr (ha : SE' X M a) : SS' X M (.expr a) := by
  intro Z h σ μ r S fl σ' e
  simp only [evT] at e
  obtain ⟨o, σ1, e1, e⟩ := qbind_ok e
  cases e
  obtain ⟨m, h1, r1, Z1, q1, S1, F1, T1⟩ := ha Z h σ μ r S o _ e1
  simp only [evS, q1, Mn.R.bind]
  obtain ⟨Sz, Fz⟩ := wk0 S1 F1
  exact RS.nx Sz Fz fun _ _ => rfl
theorem ss'_ret (ha : SE' X M a) : SS' X M (.ret a) := by
  intro Z h σ μ r S fl σ' e
  simp only [evT] at e
  obtain ⟨o, σ1, e1, e⟩ := qbind_ok e
  obtain ⟨m, h1, r1, Z1, q1, S1, F1, T1⟩ := ha Z h σ μ r S o σ1 e1
  split at e
  · rename_i o2 σ2 e3
    cases e
    obtain ⟨r2, Z2, S2, F2, T2, nb⟩ := force_ok S1 F1.zz T1 e3
    simp only [evS, q1, Mn.R.bind]
    exact RS.ret S2 (F1.trans S1 F2) T2 nb
  · cases e
theorem ss'_retN : SS' X M .retN := by
  intro Z h σ μ r S fl σ' e
  simp only [evT] at e
  cases e
  simp only [evS]
  exact RS.ret (o := .val .non) S .refl Rd.non rfl
theorem ss'_pass : SS' X M .pass := by
  intro Z h σ μ r S fl σ' e
  simp only [evT] at e
  cases e
  simp only [evS]
  exact RS.nx S .refl fun _ _ => rfl
theorem ss'_brk : SS' X M .brk := by
  intro Z h σ μ r S fl σ' e
  simp only [evT] at e
  cases e
  simp only [evS]
  exact ⟨_, h, μ, r, Z, rfl, S, .refl, fun _ _ => rfl, rfl, rfl⟩
theorem ss'_cont : SS' X M .cont := by
  intro Z h σ μ r S fl σ' e
  simp only [evT] at e
  cases e
  simp only [evS]
  exact ⟨_, h, μ, r, Z, rfl, S, .refl, fun _ _ => rfl, rfl, rfl⟩
theorem ss'_ite (ha : SE' X M a) (h1 : SSs' X M ss) (h2 : SSs' X M ts) : SS' X M (.ite a ss ts) := by
  intro Z h σ μ r S fl σ' e
  simp only [evT] at e
  obtain ⟨o, σ1, e1, e⟩ := qbind_ok e
  obtain ⟨m, h1', r1, Z1, q1, S1, F1, T1⟩ := ha Z h σ μ r S o σ1 e1
  obtain ⟨Sz, Fz⟩ := wk0 S1 F1
  split at e
  · rename_i e2
    obtain ⟨x, l1, e4⟩ := on1_ok e2
    simp only [evS, q1, Mn.R.bind, (T1.ct S1 F1.zz l1).truth e4]
    exact (h1 Z h1' σ1 μ r1 Sz fl σ' e).after Sz Fz fun _ _ => rfl
  · rename_i e2
    obtain ⟨x, l1, e4⟩ := on1_ok e2
    simp only [evS, q1, Mn.R.bind, (T1.ct S1 F1.zz l1).truth e4]
    exact (h2 Z h1' σ1 μ r1 Sz fl σ' e).after Sz Fz fun _ _ => rfl
  · cases e
theorem sss'_nil : SSs' X M [] := by
  intro Z h σ μ r S fl σ' e
  simp only [evTs'] at e
  cases e
  simp only [evSs]
  exact RS.nx S .refl fun _ _ => rfl
theorem sss'_cons (h1 : SS' X M s) (h2 : SSs' X M ss) : SSs' X M (s :: ss) := by
  intro Z h σ μ r S fl σ' e
  simp only [evTs'] at e
  obtain ⟨f1, σ1, e1, e⟩ := qbind_ok e
  obtain ⟨mf, h', μ', r', Z', q1, S1, F1, k1, x⟩ := h1 Z h σ μ r S f1 σ1 e1
  simp only [evSs, q1, Mn.R.bind]
  cases f1 with
  | nx =>
    obtain ⟨rfl, rfl⟩ := x
    exact (h2 _ h' σ1 μ' r' S1 fl σ' e).after S1 F1 k1
  | brk => obtain ⟨rfl, rfl⟩ := x; cases e; exact ⟨_, h', μ', r', _, rfl, S1, F1, k1, rfl, rfl⟩
  | cont => obtain ⟨rfl, rfl⟩ := x; cases e; exact ⟨_, h', μ', r', _, rfl, S1, F1, k1, rfl, rfl⟩
  | ret o => obtain ⟨m, rfl, x⟩ := x; cases e; exact ⟨_, h', μ', r', _, rfl, S1, F1, k1, m, rfl, x⟩
theorem ss'_whl (ha : SE' X M a) (hs : SSs' X M ss) (hf : M.fuel = X.fuel) : SS' X M (.whl a ss) := by
  intro Z h σ μ r S fl σ' e
  simp only [evT] at e
  simp only [evS, hf]
  generalize X.fuel = n at e
  induction n generalizing h σ μ r with
  | zero => simp only [whlP] at e; cases e
  | succ n ih =>
    simp only [whlP] at e
    obtain ⟨o, σ1, e1, e⟩ := qbind_ok e
    obtain ⟨m, h1, r1, Z1, q1, S1, F1, T1⟩ := ha Z h σ μ r S o σ1 e1
    obtain ⟨Sz, Fz⟩ := wk0 S1 F1
    split at e
    · rename_i e2
      obtain ⟨x, l1, e4⟩ := on1_ok e2
      obtain ⟨f1, σ2, e5, e⟩ := qbind_ok e
      obtain ⟨mf, h2, μ2, r2, Z2, q2, S2, F2, k2, x⟩ := hs Z h1 σ1 μ r1 Sz f1 σ2 e5
      simp only [whlGo, q1, Mn.R.bind, (T1.ct S1 F1.zz l1).truth e4, q2]
      cases f1 with
      | nx =>
        obtain ⟨rfl, rfl⟩ := x
        exact ((ih h2 σ2 μ2 r2 S2 e).after S2 F2 k2).after Sz Fz fun _ _ => rfl
      | cont =>
        obtain ⟨rfl, rfl⟩ := x
        exact ((ih h2 σ2 μ2 r2 S2 e).after S2 F2 k2).after Sz Fz fun _ _ => rfl
      | brk =>
        obtain ⟨rfl, rfl⟩ := x
        cases e
        exact RS.after Sz Fz (fun _ _ => rfl) (RS.nx S2 F2 k2)
      | ret o =>
        obtain ⟨m2, rfl, x⟩ := x
        cases e
        exact RS.after Sz Fz (fun _ _ => rfl) ⟨_, h2, μ2, r2, Z2, rfl, S2, F2, k2, m2, rfl, x⟩
    · rename_i e2
      cases e
      obtain ⟨x, l1, e4⟩ := on1_ok e2
      simp only [whlGo, q1, Mn.R.bind, (T1.ct S1 F1.zz l1).truth e4]
      exact RS.nx Sz Fz fun _ _ => rfl
    · cases e
theorem for_ok' {cl : Nat → Cls} {Z : Nat → Prop} {it : It} {xs : List PV} {m n : MV} {x y : PV} {stepM : MV → MS' → MH → R Fl} {stepP : PV → PS → Q FlP} (hm : ∀ N h, Ct N h m x → Ct N h n y → ∃ ms, it.items h = some ms ∧ Rds N h ms xs)
    (hs : ∀ h σ μ r mv v, St cl Z h σ μ r → Rd (NN Z r) h mv v → ∀ fl σ', stepP v σ = .ok fl σ' → RS cl Z h σ μ r fl σ' (stepM mv μ h)) :
    ∀ (rest pre : List PV) (i : Nat) (h : MH) (σ : PS) (μ : MS') (r : Nat → Option Nat), xs = pre ++ rest → pre.length = i → St cl Z h σ μ r → Src Z h r m x → Src Z h r n y →
      ∀ fl σ', forP stepP rest σ = .ok fl σ' → RS cl Z h σ μ r fl σ' (forGo it stepM rest.length i μ h) ∧ (fl = .nx ∨ ∃ o, fl = .ret o) := by
  intro rest
  induction rest with
  | nil =>
    intro pre i h σ μ r ex ei S sa sb fl σ' e
    simp only [forP] at e
    cases e
    obtain ⟨ms, e1, e2⟩ := hm _ _ sa.ct sb.ct
    have : ms.length = i := by rw [e2.length, ex, ← ei]; simp
    simp only [forGo, List.length_nil, doneI, e1, this, beq_self_eq_true, if_true]
    exact ⟨RS.nx S .refl fun _ _ => rfl, by simp⟩
  | cons v rest ih =>
    intro pre i h σ μ r ex ei S sa sb fl σ' e
    simp only [forP] at e
    obtain ⟨f1, σ1, e1, e⟩ := qbind_ok e
    obtain ⟨ms, g1, g2⟩ := hm _ _ sa.ct sb.ct
    have lx : ms.length = i + (rest.length + 1) := by rw [g2.length, ex, ← ei]; simp
    obtain ⟨mv, g3, g4⟩ := g2.get (i := i) (v := v) (by rw [ex, ← ei]; simp)
    have et : turnI it h i (rest.length + 1) = some mv := by simp only [turnI, g1, Option.bind_some, lx, if_true, g3]
    obtain ⟨mf, h1, μ1, r1, Z1, q1, S1, F1, k1, q2⟩ := hs h σ μ r mv v S g4 f1 σ1 e1
    simp only [forGo, List.length_cons, et, q1, Mn.R.bind]
    have next : forP stepP rest σ1 = .ok fl σ' → Z1 = Z → RS cl Z h σ μ r fl σ' (forGo it stepM rest.length (i + 1) μ1 h1) ∧ (fl = .nx ∨ ∃ o, fl = .ret o) := fun e ez => by
      subst ez
      obtain ⟨x1, x2⟩ := ih (pre ++ [v]) (i + 1) h1 σ1 μ1 r1 (by rw [ex]; simp) (by simp [ei]) S1 (sa.step S F1) (sb.step S F1) fl σ' e
      exact ⟨x1.after S1 F1 k1, x2⟩
    cases f1 with
    | nx => obtain ⟨rfl, ez⟩ := q2; exact next e ez
    | cont => obtain ⟨rfl, ez⟩ := q2; exact next e ez
    | brk => obtain ⟨rfl, rfl⟩ := q2; cases e; exact ⟨RS.nx S1 F1 k1, .inl rfl⟩
    | ret o => obtain ⟨m2, rfl, q2⟩ := q2; cases e; exact ⟨⟨_, h1, μ1, r1, Z1, rfl, S1, F1, k1, m2, rfl, q2⟩, .inr ⟨o, rfl⟩⟩
theorem ss'_for {tg : MT} {ik : IK} (ha : SE' X M a) (hb : SE' X M b) (hs : SSs' X M ss) : SS' X M (.for_ tg ik a b ss) := by
  intro Z h σ μ r S fl σ' e
  simp only [evT] at e
  obtain ⟨oa, σ1, e1, e⟩ := qbind_ok e
  obtain ⟨ob, σ2, e2, e⟩ := qbind_ok e
  obtain ⟨m, h1, n, h2, r2, Z2, q1, q2, S2, F2, T1, T2⟩ := two_ok ha hb S e1 e2
  split at e
  · rename_i x y xs σ3 e3
    obtain ⟨f1, σ4, e4, e⟩ := qbind_ok e
    cases e
    obtain ⟨r3, Z3, Zm, S3, F3, sa, sb, z1, z2, ka, kb, eit, lk1, nl⟩ := src_ok S2 F2.zz T1 T2 e3
    obtain ⟨it, eq, hm⟩ := it_ok sa.ct sb.ct eit
    obtain ⟨mxs, g1, g2⟩ := hm _ _ sa.ct sb.ct
    obtain ⟨⟨mf, h4, μ4, r4, Z4, q3, S4, F4, k4, q4⟩, q5⟩ := for_ok' (Z := Z3) (cl := X.cl) (it := it) (m := m) (n := n) (x := x) (y := y) (xs := xs)
      (stepM := fun v σ h => forStep (asgT tg v σ) (fun σ h => evSs M ss σ h) h) (stepP := fun v σ => forStepP (asgP X.cl tg v σ) (fun σ => evTs' X ss σ)) hm (by
        intro h σ μ r mv v S g fl σ' e
        unfold forStepP at e
        split at e
        · rename_i σa ea
          obtain ⟨μ1, r1, g1, S1, F1, k1, _, _⟩ := asgq_ok tg S g ea
          simp only [g1, forStep]
          exact (hs Z3 h σa μ1 r1 S1 fl σ' e).after S1 F1 k1
        · cases e) xs [] 0 h2 σ3 μ r3 rfl rfl S3 sa sb _ σ4 e4
    simp only [evS, q1, q2, Mn.R.bind, eq, g1]
    rw [g2.length, q3]
    have mu : ∀ i, oa = .bor i ∨ ob = .bor i → μ4[i]? = μ[i]? := fun i hi => k4 i (.inl (lk1 i hi))
    have F24 := F3.trans S3 F4
    have F04 := F2.trans S2 F24
    have lkk : ∀ i : Nat, σ[i]? = some (some PV.lck) → (unlockO oa x (unlockO ob y σ4))[i]? = some (some PV.lck) := fun i z => unlock_lk nl (fun i z => F24.lk i z) i (F2.lk i z)
    have kmu : lkμ X.cl σ μ μ4 := fun i z => k4 i (z.imp (fun z => F3.lk i (F2.lk i z)) id)
    rcases q5 with rfl | ⟨o, rfl⟩
    · obtain ⟨rfl, rfl⟩ := q4
      obtain ⟨r5, S5, up⟩ := unsrc_ok S4 z1 z2 (ka.step S3 F4 (fun i hi => mu i (.inl hi)) z2) (kb.step S3 F4 (fun i hi => mu i (.inr hi)) (fun _ z => z))
      exact RS.nx (S5.weak F2.zz) ⟨fun _ z => z, F04.len, F04.same, fun a z => F04.nn a (up a (NN.weak F2.zz a z)), lkk⟩ kmu
    · obtain ⟨m2, rfl, T, nb⟩ := q4
      -- what is told stays its own while the walked ones are opened
      let nw : Nat → Prop := fun a => Z4 a ∧ ¬ Z3 a
      have S4' : St X.cl (fun a => Z3 a ∨ nw a) h4 σ4 μ4 r4 := S4.weak fun a y => by
        rcases y with y | y
        · exact F4.zz a y
        · exact y.1
      have sub4 : ∀ a, NN (fun a => Z3 a ∨ nw a) r4 a → NN Z4 r4 a := NN.weak fun a y => by
        rcases y with y | y
        · exact F4.zz a y
        · exact y.1
      have ka4 := ka.step S3 F4 (fun i hi => mu i (.inl hi)) z2
      have kb4 := kb.step S3 F4 (fun i hi => mu i (.inr hi)) (fun _ z => z)
      have lift : ∀ {o : Opd} {m : MV} {v : PV} {Zt Zm' : Nat → Prop}, (∀ a, Zm' a → Z3 a) → Lkj X.cl Zt Zm' o m v Z4 h4 μ4 r4 → Lkj X.cl (fun a => Zt a ∨ nw a) (fun a => Zm' a ∨ nw a) o m v (fun a => Z3 a ∨ nw a) h4 μ4 r4 := fun {o m v Zt Zm'} zs k => by
        cases o with
        | val _ => trivial
        | own _ => trivial
        | bor i =>
          obtain ⟨a, b, c⟩ := k
          refine ⟨a, b, ?_⟩
          rcases c with ⟨t, d1, d2, d3, d4⟩ | ⟨d1, d2⟩
          · exact .inl ⟨t, d1, .inl d2, fun y => by
              rcases y with y | y
              · exact d3 y
              · exact y.2 (zs t d2), d4.weak sub4⟩
          · exact .inr ⟨d1.weak sub4, d2⟩
      obtain ⟨r5, S5, up⟩ := unsrc_ok (Zt := fun a => Z2 a ∨ nw a) (Zm := fun a => Zm a ∨ nw a) (Z2 := fun a => Z3 a ∨ nw a) S4' (fun a y => y.imp (z1 a) id) (fun a y => y.imp (z2 a) id) (lift z2 ka4) (lift (fun _ y => y) kb4)
      have z03 : ∀ a, Z a → Z3 a := fun a y => F3.zz a (F2.zz a y)
      refine ⟨_, h4, μ4, r5, fun a => Z a ∨ nw a, rfl, S5.weak fun a y => y.imp (F2.zz a) id, ⟨fun a y => .inl y, F04.len, F04.same, fun a y => F04.nn a (sub4 a (up a (NN.weak (fun a y => y.imp (F2.zz a) id) a y))), lkk⟩, kmu, m2, rfl, ?_, nb⟩
      have dn : ∀ a, NN (fun a => Z a ∨ nw a) r5 a → NN Z4 r4 a := fun a y => sub4 a (up a (NN.weak (fun a y => y.imp (F2.zz a) id) a y))
      cases o with
      | val v => exact Rd.weak dn T
      | bor i => cases nb
      | own v =>
        obtain ⟨t, e, a, b, c⟩ := T
        exact ⟨t, e, .inr ⟨a, b⟩, fun y => b (z03 t y), c.weak dn⟩
  · cases e
end
/-! ### what may raise -/
section
variable {X : CQ} {M : Cm} {es : List ME} {e0 : ME} {f : Str}
theorem isB_val {v : PV} : (Opd.val v).isB = false := rfl
theorem ss'_retC (ha : SE' X M e0) : SS' X M (.retC e0) := by
  intro Z h σ μ r S fl σ' e
  simp only [evT] at e
  obtain ⟨o, σ1, e1, e⟩ := qbind_ok e
  obtain ⟨m, h1, r1, Z1, q1, S1, F1, T1⟩ := ha Z h σ μ r S o σ1 e1
  split at e
  · rename_i o2 σ2 e3
    obtain ⟨r2, Z2, S2, F2, T2, nb⟩ := force_ok S1 F1.zz T1 e3
    split at e
    · rename_i hd
      cases e
      simp only [evS, q1, Mn.R.bind, decO_none T2 hd]
      exact RS.ret S2 (F1.trans S1 F2) T2 nb
    · cases e
  · cases e
theorem ss'_raise {c : Str} (hs : SEs' X M es) : SS' X M (.raise c es) := by
  intro Z h σ μ r S fl σ' e
  simp only [evT] at e
  obtain ⟨os, σ1, e1, e⟩ := qbind_ok e
  obtain ⟨ms, h1, r1, Z1, q1, S1, F1, T1⟩ := hs Z h σ μ r S os σ1 e1
  split at e
  · rename_i vs σ2 e3
    obtain ⟨r2, Z2, S2, F2, T2⟩ := forces_ok S1 F1.zz T1 e3
    split at e
    · rename_i hr
      cases e
      simp only [evS, q1, Mn.R.bind]
      rw [if_pos (raise_ok T2 hr)]
      obtain ⟨Sz, Fz⟩ := wk0 S2 (F1.trans S1 F2)
      exact RS.ret (o := .val (encXP c vs)) Sz Fz (Rd.tup (.cons (.str _) (.cons (.str _) T2))) rfl
    · cases e
  · cases e
theorem ss'_asgX {tg : MT} (ha : SE' X M (.call f es)) : SS' X M (.asgX tg f es) := by
  intro Z h σ μ r S fl σ' e
  simp only [evT] at e
  obtain ⟨o, σ1, e1, e⟩ := qbind_ok e
  obtain ⟨m, h1, r1, Z1, q1, S1, F1, T1⟩ := ha Z h σ μ r S o σ1 e1
  split at e
  · rename_i c fs hd
    cases e
    obtain ⟨ms, d1, d2, rfl⟩ := decO_some T1 hd
    simp only [evS, q1, Mn.R.bind, d1]
    exact RS.ret S1 F1 T1 rfl
  · rename_i hd
    unfold asgF at e
    split at e
    · rename_i σ3 e2
      cases e
      split at e2
      · rename_i o2 σ2 e3
        obtain ⟨r2, Z2, S2, F2, T2, nb⟩ := force_ok S1 F1.zz T1 e3
        have F12 := F1.trans S1 F2
        obtain ⟨μ', r', e4, S3, _, up, lk, k⟩ := asgO_ok S2 F12.zz T2 e2
        simp only [evS, q1, Mn.R.bind, decO_none T1 hd, e4, Option.map_some, ofO]
        exact RS.nx S3 ⟨fun _ z => z, F12.len, F12.same, fun a y => F12.nn a (up a y), fun i z => lk i (F12.lk i z)⟩ fun i z => k i (z.imp (F12.lk i) id)
      · cases e2
    · cases e
  · cases e
theorem ss'_exprX (ha : SE' X M (.call f es)) : SS' X M (.exprX f es) := by
  intro Z h σ μ r S fl σ' e
  simp only [evT] at e
  obtain ⟨o, σ1, e1, e⟩ := qbind_ok e
  obtain ⟨m, h1, r1, Z1, q1, S1, F1, T1⟩ := ha Z h σ μ r S o σ1 e1
  split at e
  · rename_i c fs hd
    cases e
    obtain ⟨ms, d1, d2, rfl⟩ := decO_some T1 hd
    simp only [evS, q1, Mn.R.bind, d1]
    exact RS.ret S1 F1 T1 rfl
  · rename_i hd
    cases e
    simp only [evS, q1, Mn.R.bind, decO_none T1 hd]
    obtain ⟨Sz, Fz⟩ := wk0 S1 F1
    exact RS.nx Sz Fz fun _ _ => rfl
  · cases e
theorem ss'_retX (ha : SE' X M (.call f es)) : SS' X M (.retX f es) := by
  intro Z h σ μ r S fl σ' e
  simp only [evT] at e
  obtain ⟨o, σ1, e1, e⟩ := qbind_ok e
  obtain ⟨m, h1, r1, Z1, q1, S1, F1, T1⟩ := ha Z h σ μ r S o σ1 e1
  split at e
  · rename_i o2 σ2 e3
    cases e
    obtain ⟨r2, Z2, S2, F2, T2, nb⟩ := force_ok S1 F1.zz T1 e3
    simp only [evS, q1, Mn.R.bind]
    exact RS.ret S2 (F1.trans S1 F2) T2 nb
  · cases e
theorem okK_ok {cl : Nat → Cls} {k : Option Nat} {σ : PS} {μ : MS'} (hl : σ.length = μ.length) (h : okKP cl k σ = true) : okK k μ = true := by
  cases k with
  | none => rfl
  | some k =>
    simp only [okKP, Bool.and_eq_true, decide_eq_true_eq] at h
    simp only [okK, decide_eq_true_eq]
    rw [← hl]; exact h.1.2
theorem wipeK_ok {cl : Nat → Cls} {Z : Nat → Prop} {h : MH} {σ : PS} {μ : MS'} {r : Nat → Option Nat} {k : Option Nat} (S : St cl Z h σ μ r) (hk : okKP cl k σ = true) :
    St cl Z h (wipeKP k σ) (wipeK k μ) r ∧ Fr Z h σ r Z h (wipeKP k σ) r ∧ lkμ cl σ μ (wipeK k μ) := by
  cases k with
  | none => exact ⟨S, .refl, fun _ _ => rfl⟩
  | some k =>
    simp only [okKP, Bool.and_eq_true, decide_eq_true_eq] at hk
    obtain ⟨⟨h1, h2⟩, h3⟩ := hk
    have ho : ∀ i, i ∈ [k] → cl i = .sh := fun i hi => by simp at hi; subst hi; exact h1
    refine ⟨S.wipe ho (by simp [wipeK]) (fun i hi => ?_), Fr.wipe S ho, fun i z => ?_⟩
    · simp at hi
      simp only [wipeK]
      exact List.getElem?_set_ne (Ne.symm hi)
    · simp only [wipeK]
      refine List.getElem?_set_ne fun q => ?_
      subst q
      rcases z with z | z | z | z
      · rw [z] at h3; cases h3
      · rw [h1] at z; cases z
      · rw [h1] at z; cases z
      · rw [h1] at z; cases z
theorem wrap_ok {w : Wr} {o o' : Opd} {m : MV} {cl : Nat → Cls} {Z Z' : Nat → Prop} {h : MH} {μ : MS'} {r : Nat → Option Nat} (T : TO cl Z Z' h μ r o m) (e : wrapP w o = some (some o')) : ∃ m', wrapM w m = some (some m') ∧ TO cl Z Z' h μ r o' m' := by
  unfold wrapP at e
  split at e
  · cases e; exact ⟨m, rfl, T⟩
  · cases e
  · cases e; cases T; exact ⟨_, rfl, .bl _⟩
  · cases e; cases T; exact ⟨_, rfl, .bl _⟩
  · cases e
  · cases e
theorem wrap_no {w : Wr} {o : Opd} {m : MV} {cl : Nat → Cls} {Z Z' : Nat → Prop} {h : MH} {μ : MS'} {r : Nat → Option Nat} (T : TO cl Z Z' h μ r o m) (e : wrapP w o = some none) : wrapM w m = some none := by
  unfold wrapP at e
  split at e
  · cases e
  · rfl
  · cases e
  · cases e
  · cases T; rfl
  · cases e
theorem ss'_tryC {w : Wr} {tg : MT} {c : Str} {k : Option Nat} {hd : List MS} (ha : SE' X M (.call f es)) (hh : ∀ c' fs ms, (∀ (N : Nat → Prop) (h : MH), Rds N h ms fs) → SSs' (X.with k c' fs) (M.with k c' ms) hd) : SS' X M (.tryC w tg f es c k hd) := by
  intro Z h σ μ r S fl σ' e
  simp only [evT] at e
  obtain ⟨o, σ1, e1, e⟩ := qbind_ok e
  obtain ⟨m, h1, r1, Z1, q1, S1, F1, T1⟩ := ha Z h σ μ r S o σ1 e1
  split at e
  · rename_i c' fs hdec
    obtain ⟨ms, d1, d2, rfl⟩ := decO_some T1 hdec
    split at e
    · rename_i hsub
      obtain ⟨fl1, σ2, e2, e⟩ := qbind_ok e
      split at e
      · rename_i hok2
        cases e
        obtain ⟨Sz, Fz⟩ := wk0 S1 F1
        obtain ⟨Sw, Fw, kw⟩ := wipeK_ok Sz hsub.2
        obtain ⟨mf, h', μ', r', Z', q2, S2, F2, k2, x⟩ := hh c' fs ms d2 Z h1 _ _ r1 Sw _ σ2 e2
        have S2' : St X.cl Z' h' σ2 μ' r' := S2
        obtain ⟨S3, F3, k3⟩ := wipeK_ok S2' hok2
        have F12 : Fr Z h σ r Z' h' σ2 r' := (Fz.trans Sz Fw).trans Sw F2
        have kk : lkμ X.cl σ μ (wipeK k μ') := by
          have a1 : lkμ X.cl σ μ (wipeK k μ) := fun i z => kw i (z.imp (Fz.lk i) id)
          have a2 : lkμ X.cl (wipeKP k σ1) (wipeK k μ) μ' := k2
          have a3 := lkμ.trans (F := (Fz.trans Sz Fw).lk) a1 a2
          exact lkμ.trans (F := F12.lk) a3 k3
        refine ⟨mf.wipe k, h', wipeK k μ', r', Z', ?_, S3, F12.trans S2' F3, kk, ?_⟩
        · simp only [evS, q1, Mn.R.bind, d1]
          rw [if_pos ⟨hsub.1, okK_ok S1.len hsub.2⟩, q2]
        · cases fl with
          | nx => obtain ⟨rfl, z⟩ := x; exact ⟨rfl, z⟩
          | brk => obtain ⟨rfl, z⟩ := x; exact ⟨rfl, z⟩
          | cont => obtain ⟨rfl, z⟩ := x; exact ⟨rfl, z⟩
          | ret o2 =>
            obtain ⟨m2, rfl, T, nb⟩ := x
            refine ⟨m2, rfl, ?_, nb⟩
            cases o2 with
            | val v => exact T
            | own v => exact T
            | bor i => cases nb
      · cases e
    · cases e
  · cases e
  · rename_i hd0
    split at e
    · rename_i o2 hw
      obtain ⟨m2, w1, T2⟩ := wrap_ok T1 hw
      unfold asgF at e
      split at e
      · rename_i σ3 e2
        cases e
        split at e2
        · rename_i o3 σ2 e3
          obtain ⟨r2, Z2, S2, F2, T3, nb⟩ := force_ok S1 F1.zz T2 e3
          have F12 := F1.trans S1 F2
          obtain ⟨μ', r', e4, S3, _, up, lk, k⟩ := asgO_ok S2 F12.zz T3 e2
          simp only [evS, q1, Mn.R.bind, decO_none T1 hd0, w1, e4, Option.map_some, ofO]
          exact RS.nx S3 ⟨fun _ z => z, F12.len, F12.same, fun a y => F12.nn a (up a y), fun i z => lk i (F12.lk i z)⟩ fun i z => k i (z.imp (F12.lk i) id)
        · cases e2
      · cases e
    · rename_i hw
      cases e
      simp only [evS, q1, Mn.R.bind, decO_none T1 hd0, wrap_no T1 hw]
      obtain ⟨Sz, Fz⟩ := wk0 S1 F1
      exact RS.nx Sz Fz fun _ _ => rfl
    · cases e
end
structure Ctx (X : CQ) (M : Cm) : Prop where
  hc : CallOk X M.call
  hg : M.gl = X.gl
  hf : M.fuel = X.fuel
  hx : ExR X.ex M.ex
  hE : CallEOk X M
theorem Ctx.with {X : CQ} {M : Cm} (c : Ctx X M) (k : Option Nat) (c' : Str) (fs : List PV) (ms : List MV) (h : ∀ (N : Nat → Prop) (h : MH), Rds N h ms fs) : Ctx (X.with k c' fs) (M.with k c' ms) :=
  ⟨c.hc, c.hg, c.hf, by cases k with
    | none => exact True.intro
    | some k => exact ⟨rfl, rfl, h⟩, c.hE⟩
mutual
theorem ss' : ∀ (s : MS) {X : CQ} {M : Cm}, Ctx X M → SS' X M s
  | .asg tg e, X, M, c => ss'_asg (se' c.hc c.hg c.hx c.hE e)
  | .asgSub o i e, X, M, c => ss'_asgSub (se' c.hc c.hg c.hx c.hE o) (se' c.hc c.hg c.hx c.hE i) (se' c.hc c.hg c.hx c.hE e)
  | .expr e, X, M, c => ss'_expr (se' c.hc c.hg c.hx c.hE e)
  | .ret e, X, M, c => ss'_ret (se' c.hc c.hg c.hx c.hE e)
  | .retN, X, M, c => ss'_retN
  | .ite t a b, X, M, c => ss'_ite (se' c.hc c.hg c.hx c.hE t) (sss' a c) (sss' b c)
  | .for_ tg ik a b body, X, M, c => ss'_for (se' c.hc c.hg c.hx c.hE a) (se' c.hc c.hg c.hx c.hE b) (sss' body c)
  | .whl t body, X, M, c => ss'_whl (se' c.hc c.hg c.hx c.hE t) (sss' body c) c.hf
  | .pass, X, M, c => ss'_pass
  | .brk, X, M, c => ss'_brk
  | .cont, X, M, c => ss'_cont
  | .retC e, X, M, c => ss'_retC (se' c.hc c.hg c.hx c.hE e)
  | .raise cl es, X, M, c => ss'_raise (ses' c.hc c.hg c.hx c.hE es)
  | .asgX tg f es, X, M, c => ss'_asgX (se' c.hc c.hg c.hx c.hE (.call f es))
  | .exprX f es, X, M, c => ss'_exprX (se' c.hc c.hg c.hx c.hE (.call f es))
  | .retX f es, X, M, c => ss'_retX (se' c.hc c.hg c.hx c.hE (.call f es))
  | .tryC w tg f es cl k hd, X, M, c => ss'_tryC (se' c.hc c.hg c.hx c.hE (.call f es)) fun c' fs ms h => sss' hd (c.with k c' fs ms h)
theorem sss' : ∀ (ss : List MS) {X : CQ} {M : Cm}, Ctx X M → SSs' X M ss
  | [], X, M, c => sss'_nil
  | s :: ss, X, M, c => sss'_cons (ss' s c) (sss' ss c)
end
/-! ### functions -/
/-- the parameters' roots, by slot -/
def rOf (ts : List (Option Nat)) : Nat → Option Nat := fun i => (ts[i]?).join
theorem PF.len {N : Nat → Prop} {h : MH} {ks : List PK} {ms : List MV} {vs : List PV} {ts : List (Option Nat)} (x : PF N h ks ms vs ts) : ms.length = ks.length ∧ vs.length = ks.length ∧ ts.length = ks.length := by
  induction x with
  | nil => exact ⟨rfl, rfl, rfl⟩
  | pl _ _ ih => simp [ih]
  | rt _ _ _ ih => simp [ih]
  | fz _ _ _ _ ih => simp [ih]
theorem PF.get {N : Nat → Prop} {h : MH} {ks : List PK} {ms : List MV} {vs : List PV} {ts : List (Option Nat)} (x : PF N h ks ms vs ts) {i : Nat} {v : PV} (e : vs[i]? = some v) :
    ∃ m k, ms[i]? = some m ∧ ks[i]? = some k ∧ ((k = .pl ∧ ts[i]? = some none ∧ Rd N h m v) ∨ (k ≠ .pl ∧ ∃ t, m = .ref t ∧ ts[i]? = some (some t) ∧ Rt N h t v) ∨ (k ≠ .pl ∧ (k = .io → isLD v = false) ∧ ts[i]? = some none ∧ Rd N h m v)) := by
  induction x generalizing i with
  | nil => simp at e
  | pl a _ ih =>
    cases i with
    | zero => simp at e; subst e; exact ⟨_, _, rfl, rfl, .inl ⟨rfl, rfl, a⟩⟩
    | succ i => simpa using ih (by simpa using e)
  | rt a b _ ih =>
    cases i with
    | zero => simp at e; subst e; exact ⟨_, _, rfl, rfl, .inr (.inl ⟨a, _, rfl, rfl, b⟩)⟩
    | succ i => simpa using ih (by simpa using e)
  | fz a b c _ ih =>
    cases i with
    | zero => simp at e; subst e; exact ⟨_, _, rfl, rfl, .inr (.inr ⟨a, b, rfl, c⟩)⟩
    | succ i => simpa using ih (by simpa using e)
theorem PF.root {N : Nat → Prop} {h : MH} {ks : List PK} {ms : List MV} {vs : List PV} {ts : List (Option Nat)} (x : PF N h ks ms vs ts) {i t : Nat} (e : ts[i]? = some (some t)) : ∃ v k, vs[i]? = some v ∧ ks[i]? = some k ∧ k ≠ .pl ∧ Rt N h t v := by
  induction x generalizing i with
  | nil => simp at e
  | pl a _ ih =>
    cases i with
    | zero => simp at e
    | succ i => simpa using ih (by simpa using e)
  | rt a b _ ih =>
    cases i with
    | zero => simp at e; subst e; exact ⟨_, _, rfl, rfl, a, b⟩
    | succ i => simpa using ih (by simpa using e)
  | fz a b c _ ih =>
    cases i with
    | zero => simp at e
    | succ i => simpa using ih (by simpa using e)
theorem rOf_mem {ts : List (Option Nat)} {i t : Nat} (e : rOf ts i = some t) : some t ∈ ts ∧ ts[i]? = some (some t) := by
  unfold rOf at e
  cases q : ts[i]? with
  | none => rw [q] at e; cases e
  | some x => rw [q] at e; cases x with
    | none => cases e
    | some y => cases e; exact ⟨List.mem_of_getElem? q, rfl⟩
theorem mem_rOf {ts : List (Option Nat)} {t : Nat} (e : some t ∈ ts) : ∃ i, rOf ts i = some t := by
  obtain ⟨i, q⟩ := List.getElem?_of_mem e
  exact ⟨i, by unfold rOf; rw [q]; rfl⟩
theorem NN_TN {Z : Nat → Prop} {ts : List (Option Nat)} (a : Nat) : NN Z (rOf ts) a ↔ TN Z ts a := by
  constructor
  · rintro (y | ⟨i, y⟩)
    · exact .inl y
    · exact .inr (rOf_mem y).1
  · rintro (y | y)
    · exact .inl y
    · exact .inr (mem_rOf y)
theorem nd_inj {ts : List (Option Nat)} (nd : (ts.filterMap id).Nodup) {i j t : Nat} (a : ts[i]? = some (some t)) (b : ts[j]? = some (some t)) : i = j := by
  induction ts generalizing i j with
  | nil => simp at a
  | cons x ts ih =>
    cases x with
    | none =>
      cases i with
      | zero => simp at a
      | succ i => cases j with
        | zero => simp at b
        | succ j => simp at a b; rw [ih (by simpa using nd) a b]
    | some y =>
      simp only [List.filterMap_cons, id, List.nodup_cons] at nd
      cases i with
      | zero => cases j with
        | zero => rfl
        | succ j =>
          simp at a b; subst a
          exact absurd ((List.mem_filterMap (f := id)).mpr ⟨some y, List.mem_of_getElem? b, rfl⟩) nd.1
      | succ i => cases j with
        | zero =>
          simp at a b; subst b
          exact absurd ((List.mem_filterMap (f := id)).mpr ⟨some y, List.mem_of_getElem? a, rfl⟩) nd.1
        | succ j => simp at a b; rw [ih nd.2 a b]
/-- the classes of a def's slots, as it was called -/
def clS (f : FP) (ts : List (Option Nat)) : Nat → Cls := fun i => if f.pk[i]? = some .br ∧ ts[i]? = some none then .bf else f.cl i
theorem okC_get : ∀ {ks : List PK} {cs : List Cls} {i : Nat} {k : PK}, okC ks cs = true → ks[i]? = some k → cs[i]? = some k.cls
  | [], _, _, _, _, e => by simp at e
  | k :: ks, [], _, _, h, _ => by simp [okC] at h
  | k :: ks, c :: cs, i, k', h, e => by
    simp only [okC, Bool.and_eq_true, decide_eq_true_eq] at h
    cases i with
    | zero => simp at e; subst e; simp [h.1]
    | succ i => simpa using okC_get h.2 (by simpa using e)
theorem okB_get : ∀ {cs : List Cls} {i : Nat} {k : Cls}, okB cs = true → cs[i]? = some k → k ≠ .bf
  | [], _, _, _, e => by simp at e
  | c :: cs, i, k, h, e => by
    simp only [okB, Bool.and_eq_true, decide_eq_true_eq] at h
    cases i with
    | zero => simp at e; subst e; exact h.1
    | succ i => exact okB_get h.2 (by simpa using e)
theorem cl_pk {f : FP} {i : Nat} {k : PK} (g : f.good = true) (e : f.pk[i]? = some k) : f.cl i = k.cls := by
  simp only [FP.good, Bool.and_eq_true, decide_eq_true_eq] at g
  unfold FP.cl
  rw [okC_get g.1.2 e]
  rfl
theorem clS_pk {f : FP} {ts : List (Option Nat)} {i : Nat} {k : PK} (g : f.good = true) (e : f.pk[i]? = some k) (n : k ≠ .pl) : clS f ts i ≠ .sh ∧ (k = .io → clS f ts i = .io) ∧ (k = .br → ts[i]? = some none → clS f ts i = .bf) ∧ (k = .br → clS f ts i = .br ∨ clS f ts i = .bf) ∧ (∀ t, ts[i]? = some (some t) → clS f ts i ≠ .bf) := by
  unfold clS
  rw [e, cl_pk g e]
  cases k with
  | pl => exact absurd rfl n
  | io => simp [PK.cls]
  | br =>
    simp only [true_and, PK.cls]
    split
    · rename_i h; simp [h]
    · rename_i h; simp [h]
theorem clS_pl {f : FP} {ts : List (Option Nat)} {i : Nat} (g : f.good = true) (e : f.pk[i]? = some .pl) : clS f ts i = .sh := by
  unfold clS
  rw [e, cl_pk g e]
  simp [PK.cls]
/-- classes that the evaluator does not tell apart -/
structure ClEq (c c' : Nat → Cls) : Prop where
  sh : ∀ i, c i = .sh ↔ c' i = .sh
  ow : ∀ i, c i = .ow ↔ c' i = .ow
  io : ∀ i, c i = .io ↔ c' i = .io
theorem clS_eq {f : FP} {ts : List (Option Nat)} (g : f.good = true) : ClEq (clS f ts) f.cl := by
  have : ∀ i, clS f ts i = f.cl i ∨ (clS f ts i = .bf ∧ f.cl i = .br) := fun i => by
    unfold clS
    split
    · rename_i h
      exact .inr ⟨rfl, by rw [cl_pk g h.1]; rfl⟩
    · exact .inl rfl
  refine ⟨fun i => ?_, fun i => ?_, fun i => ?_⟩ <;> (rcases this i with e | ⟨e1, e2⟩ <;> simp [*])
section
variable {c c' : Nat → Cls} (q : ClEq c c')
include q
theorem force_cl (o : Opd) (σ : PS) : force c o σ = force c' o σ := by
  cases o <;> simp only [force]
  simp only [q.ow]
theorem forces_cl (os : List Opd) : ∀ σ, forces c os σ = forces c' os σ := by
  induction os with
  | nil => intro σ; rfl
  | cons o os ih => intro σ; simp only [forces, force_cl q, ih]
mutual
theorem asgP_cl : ∀ (t : MT) (v : PV) (σ : PS), asgP c t v σ = asgP c' t v σ
  | .nm i, v, σ => by
    simp only [asgP]
    have a := q.sh i; have b := q.ow i
    cases x : c i <;> cases y : c' i <;> simp_all
  | .tp ts, v, σ => by cases v <;> simp only [asgP]; rw [asgPs_cl ts]
theorem asgPs_cl : ∀ (t : List MT) (v : List PV) (σ : PS), asgPs c t v σ = asgPs c' t v σ
  | [], v, σ => by simp only [asgPs]
  | t :: ts, v, σ => by
    cases v with
    | nil => simp only [asgPs]
    | cons x xs =>
      simp only [asgPs, asgP_cl t]
      congr 1
      funext σ
      exact asgPs_cl ts xs σ
end
theorem asgO_cl (t : MT) (o : Opd) (σ : PS) : asgO c t o σ = asgO c' t o σ := by
  cases o with
  | val v => cases t <;> simp only [asgO, asgP_cl q]
  | bor i => cases t <;> rfl
  | own v =>
    cases t with
    | tp ts => rfl
    | nm i =>
      simp only [asgO]
      have a := q.sh i; have b := q.ow i
      cases x : c i <;> cases y : c' i <;> simp_all
theorem asgF_cl (t : MT) (o : Opd) (σ : PS) : asgF c t o σ = asgF c' t o σ := by
  unfold asgF
  rw [force_cl q]
  split
  · rw [asgO_cl q]
  · rfl
theorem forceQ_cl (o : Opd) (σ : PS) : forceQ c o σ = forceQ c' o σ := by unfold forceQ; rw [force_cl q]
theorem canP_cl (i : Nat) : canP c i = canP c' i := by
  unfold canP
  have a := q.io i; have b := q.ow i
  cases x : c i <;> cases y : c' i <;> simp_all
theorem methO_cl (m : Me) (kd : Kd) (ob : Opd) (os : List Opd) (σ : PS) : methO c m kd ob os σ = methO c' m kd ob os σ := by
  unfold methO
  rw [forces_cl q]
  cases forces c' os σ with
  | none => rfl
  | some p => cases ob <;> simp only [canP_cl q]
theorem lcOk_cl (t : MT) (own : List Nat) : lcOk c t own = lcOk c' t own := by
  unfold lcOk
  congr 1
  congr 1
  funext i
  simp only [q.sh]
theorem compQ_cl (t : MT) (own : List Nat) (ts : PS → Q Bool) (el : PS → Q PV) (xs : List PV) (σ : PS) : compQ c t own ts el xs σ = compQ c' t own ts el xs σ := by
  unfold compQ
  simp only [asgP_cl q]
theorem argsP_cl : ∀ (ks : List PK) (os : List Opd) (σ : PS), argsP c ks os σ = argsP c' ks os σ := by
  intro ks
  induction ks with
  | nil => intro os σ; cases os <;> simp only [argsP]
  | cons k ks ih =>
    intro os σ
    cases os with
    | nil => simp only [argsP]
    | cons o os => cases k <;> cases o <;> simp only [argsP, ih, force_cl q, q.ow, q.io, ne_eq]
end
section
variable {X : CQ} {c : Nat → Cls} (q : ClEq c X.cl)
include q
theorem callP_cl (f : Str) (os : List Opd) (σ : PS) : callP { X with cl := c } f os σ = callP X f os σ := by
  unfold callP
  dsimp only
  split
  · rw [argsP_cl q]
  · rfl
mutual
theorem evP_cl : ∀ (e : ME) (σ : PS), evP { X with cl := c } e σ = evP X e σ
  | .c v, σ => by simp only [evP]
  | .var i, σ => by simp only [evP, q.sh]
  | .glb x, σ => by simp only [evP]
  | .tup es, σ => by simp only [evP, evPs_cl es, forces_cl q]
  | .lst es, σ => by simp only [evP, evPs_cl es, forces_cl q]
  | .bin op a b, σ => by simp only [evP, evP_cl a, evP_cl b]
  | .neg a, σ => by simp only [evP, evP_cl a]
  | .not_ a, σ => by simp only [evP, evP_cl a]
  | .cmp op a b, σ => by simp only [evP, evP_cl a, evP_cl b]
  | .chain o1 o2 a b d, σ => by simp only [evP, evP_cl a, evP_cl b, evP_cl d]
  | .and_ a b, σ => by simp only [evP, evP_cl a, evP_cl b]
  | .or_ a b, σ => by simp only [evP, evP_cl a, evP_cl b]
  | .ife d a b, σ => by simp only [evP, evP_cl d, evP_cl a, evP_cl b]
  | .ix a b, σ => by simp only [evP, evP_cl a, evP_cl b]
  | .sl a, σ => by simp only [evP, evP_cl a]
  | .slL a b, σ => by simp only [evP, evP_cl a, evP_cl b]
  | .slH a b, σ => by simp only [evP, evP_cl a, evP_cl b]
  | .slB a b d, σ => by simp only [evP, evP_cl a, evP_cl b, evP_cl d]
  | .rev a, σ => by simp only [evP, evP_cl a]
  | .call f es, σ => by simp only [evP, evPs_cl es, callP_cl q]
  | .blt b es, σ => by simp only [evP, evPs_cl es]
  | .meth m a es, σ => by simp only [evP, evP_cl a, evPs_cl es, methO_cl q]
  | .isi a t, σ => by simp only [evP, evP_cl a]
  | .dsp es, σ => by simp only [evP, evPs_cl es, forces_cl q]
  | .rngL a b, σ => by simp only [evP, evP_cl a, evP_cl b]
  | .rngT a b, σ => by simp only [evP, evP_cl a, evP_cl b]
  | .lc elt tg ik a b ifs own, σ => by simp only [evP, evP_cl a, evP_cl b, evPts_cl ifs, evP_cl elt, lcOk_cl q, compQ_cl q, forceQ_cl q]
  | .srtS a, σ => by simp only [evP, evP_cl a]
  | .lenS a, σ => by simp only [evP, evP_cl a]
  | .callN f es, σ => by simp only [evP, evPs_cl es, callP_cl q]
  | .isX k cs, σ => by simp only [evP, CQ.at]
  | .fldX k x, σ => by simp only [evP, CQ.at]
  | .callE f k, σ => by simp only [evP, CQ.at]
theorem evPs_cl : ∀ (es : List ME) (σ : PS), evPs { X with cl := c } es σ = evPs X es σ
  | [], σ => by simp only [evPs]
  | e :: es, σ => by simp only [evPs, evP_cl e, evPs_cl es]
theorem evPts_cl : ∀ (es : List ME) (σ : PS), evPts { X with cl := c } es σ = evPts X es σ
  | [], σ => by simp only [evPts]
  | e :: es, σ => by simp only [evPts, evP_cl e, evPts_cl es]
end
end
theorem okKP_cl {c c' : Nat → Cls} (q : ClEq c c') (k : Option Nat) (σ : PS) : okKP c k σ = okKP c' k σ := by
  cases k with
  | none => rfl
  | some k => simp only [okKP, q.sh]
mutual
theorem evT_cl : ∀ (s : MS) {X : CQ} {c : Nat → Cls} (q : ClEq c X.cl) (σ : PS), evT { X with cl := c } s σ = evT X s σ
  | .asg tg e, X, c, q, σ => by simp only [evT, evP_cl q e, asgF_cl q]
  | .asgSub o i e, X, c, q, σ => by simp only [evT, evP_cl q o, evP_cl q i, evP_cl q e, force_cl q, canP_cl q]
  | .expr e, X, c, q, σ => by simp only [evT, evP_cl q e]
  | .ret e, X, c, q, σ => by simp only [evT, evP_cl q e, force_cl q]
  | .retN, X, c, q, σ => by simp only [evT]
  | .ite t a b, X, c, q, σ => by simp only [evT, evP_cl q t, evTs'_cl a q, evTs'_cl b q]
  | .for_ tg ik a b body, X, c, q, σ => by simp only [evT, evP_cl q a, evP_cl q b, evTs'_cl body q, asgP_cl q]
  | .whl t body, X, c, q, σ => by simp only [evT, evP_cl q t, evTs'_cl body q]
  | .pass, X, c, q, σ => by simp only [evT]
  | .brk, X, c, q, σ => by simp only [evT]
  | .cont, X, c, q, σ => by simp only [evT]
  | .retC e, X, c, q, σ => by simp only [evT, evP_cl q e, force_cl q]
  | .raise cl es, X, c, q, σ => by simp only [evT, evPs_cl q es, forces_cl q]
  | .asgX tg f es, X, c, q, σ => by simp only [evT, evP_cl q (.call f es), asgF_cl q]
  | .exprX f es, X, c, q, σ => by simp only [evT, evP_cl q (.call f es)]
  | .retX f es, X, c, q, σ => by simp only [evT, evP_cl q (.call f es), force_cl q]
  | .tryC w tg f es cl k hd, X, c, q, σ => by
    have hw : ∀ c' fs σ, evTs' (CQ.with { X with cl := c } k c' fs) hd σ = evTs' (X.with k c' fs) hd σ := fun c' fs σ => evTs'_cl hd (X := X.with k c' fs) (c := c) q σ
    simp only [evT, evP_cl q (.call f es), asgF_cl q, okKP_cl q, hw]
theorem evTs'_cl : ∀ (ss : List MS) {X : CQ} {c : Nat → Cls} (q : ClEq c X.cl) (σ : PS), evTs' { X with cl := c } ss σ = evTs' X ss σ
  | [], X, c, q, σ => by simp only [evTs']
  | s :: ss, X, c, q, σ => by simp only [evTs', evT_cl s q, evTs'_cl ss q]
end
/-- where a def's body starts -/
theorem St.start {f : FP} (g : f.good = true) {Z : Nat → Prop} {h : MH} {ms : List MV} {vs : List PV} {ts : List (Option Nat)} {k : Nat} (pf : PF (TN Z ts) h f.pk ms vs ts) (zb : ∀ a, Z a → a < h.length) (nd : (ts.filterMap id).Nodup) (nz : ∀ t, some t ∈ ts → ¬ Z t) :
    St (clS f ts) Z h (vs.map some ++ List.replicate k none) (ms.map some ++ List.replicate k none) (rOf ts) := by
  have sub : ∀ a, NN Z (rOf ts) a → TN Z ts a := fun a y => (NN_TN a).mp y
  have slot : ∀ i v, (vs.map some ++ List.replicate k none)[i]? = some (some v) → vs[i]? = some v := fun i v e => by
    by_cases lt : i < vs.length
    · rw [List.getElem?_append_left (by simpa using lt), List.getElem?_map] at e
      cases q : vs[i]? with
      | none => rw [q] at e; cases e
      | some w => rw [q] at e; cases e; rfl
    · rw [List.getElem?_append_right (by simpa using lt)] at e
      have := (List.getElem?_eq_some_iff.mp e).2
      simp at this
  have slotm : ∀ i m, ms[i]? = some m → (ms.map some ++ List.replicate k none)[i]? = some (some m) := fun i m e => by
    rw [List.getElem?_append_left (by simpa using get_lt e), List.getElem?_map, e]; rfl
  refine ⟨?_, fun i v c e => ?_, fun i v c e => ?_, fun i a e => ?_, fun i j a e1 e2 => ?_, zb⟩
  · simp [pf.len.1, pf.len.2.1]
  · obtain ⟨m, kk, e1, e2, q⟩ := pf.get (slot i v e)
    refine ⟨m, slotm i m e1, ?_⟩
    rcases q with ⟨_, _, q⟩ | ⟨n, t, _, _, q⟩ | ⟨n, _, _, q⟩
    · exact q.weak sub
    · exact absurd c (clS_pk g e2 n).1
    · exact absurd c (clS_pk g e2 n).1
  · obtain ⟨m, kk, e1, e2, q⟩ := pf.get (slot i v e)
    refine ⟨m, slotm i m e1, ?_⟩
    rcases q with ⟨ek, et, q⟩ | ⟨n, t, em, et, q⟩ | ⟨n, q0, et, q⟩
    · subst ek
      exact absurd (clS_pl g e2) c
    · exact .rt t (by unfold rOf; rw [et]; rfl) em (q.weak sub)
    · refine .fz (by unfold rOf; rw [et]; rfl) (q.weak sub) ?_
      cases kk with
      | pl => exact absurd rfl n
      | io => exact .inr (q0 rfl)
      | br => exact .inl ((clS_pk g e2 n).2.2.1 rfl et)
  · obtain ⟨q1, q2⟩ := rOf_mem e
    obtain ⟨v, kk, _, e3, n, q⟩ := pf.root q2
    exact ⟨(clS_pk g e3 n).1, q.lt, nz a q1⟩
  · exact nd_inj nd (rOf_mem e1).2 (rOf_mem e2).2
theorem get_succ {α : Type} {x : α} {l : List α} {i : Nat} : (x :: l)[i + 1]? = l[i]? := rfl
theorem PF.set {N N' : Nat → Prop} {h h' : MH} {pk : List PK} {ms : List MV} {vs : List PV} {ts : List (Option Nat)} (x : PF N h pk ms vs ts) (hr : ∀ m v, Rd N h m v → Rd N' h' m v) : ∀ {σ : PS} {ios : List PV}, outsP pk vs σ = some ios →
    (∀ (i : Nat) (k : PK) (m : MV) (v' : PV), pk[i]? = some k → k ≠ .pl → ms[i]? = some m → σ[i]? = some (some v') → isLk v' = false → (∀ t, ts[i]? = some (some t) → Rt N' h' t v') ∧ (ts[i]? = some none → Rd N' h' m v' ∧ (k = .io → isLD v' = false))) → PF N' h' pk ms ios ts := by
  induction x with
  | nil => intro σ ios e _; simp only [outsP] at e; cases e; exact .nil
  | @pl m v ks ms vs ts a _ ih =>
    intro σ ios e q
    cases σ with
    | nil => simp [outsP] at e
    | cons s σ =>
      simp only [outsP] at e
      cases y : outsP ks vs σ with
      | none => rw [y] at e; cases e
      | some ios' =>
        rw [y] at e; cases e
        exact .pl (hr _ _ a) (ih y fun i k m v' e1 e2 e3 e4 => q (i + 1) k m v' e1 e2 e3 e4)
  | @rt k t v ks ms vs ts a b _ ih =>
    intro σ ios e q
    cases σ with
    | nil => cases k <;> simp [outsP] at e
    | cons s σ =>
      cases s with
      | none => cases k <;> first | exact absurd rfl a | simp [outsP] at e
      | some w =>
        have e' : (if isLk w then none else (outsP ks vs σ).map (w :: ·)) = some ios := by cases k <;> first | exact absurd rfl a | exact e
        split at e'
        · cases e'
        · rename_i hl
          cases y : outsP ks vs σ with
          | none => rw [y] at e'; cases e'
          | some ios' =>
            rw [y] at e'; cases e'
            exact .rt a ((q 0 k _ w rfl a rfl rfl (by simpa using hl)).1 t rfl) (ih y fun i k m v' e1 e2 e3 e4 => q (i + 1) k m v' e1 e2 e3 e4)
  | @fz k m v ks ms vs ts a b c _ ih =>
    intro σ ios e q
    cases σ with
    | nil => cases k <;> simp [outsP] at e
    | cons s σ =>
      cases s with
      | none => cases k <;> first | exact absurd rfl a | simp [outsP] at e
      | some w =>
        have e' : (if isLk w then none else (outsP ks vs σ).map (w :: ·)) = some ios := by cases k <;> first | exact absurd rfl a | exact e
        split at e'
        · cases e'
        · rename_i hl
          cases y : outsP ks vs σ with
          | none => rw [y] at e'; cases e'
          | some ios' =>
            rw [y] at e'; cases e'
            have := (q 0 k _ w rfl a rfl rfl (by simpa using hl)).2 rfl
            exact .fz a this.2 this.1 (ih y fun i k m v' e1 e2 e3 e4 => q (i + 1) k m v' e1 e2 e3 e4)
theorem outs_set {pk : List PK} : ∀ {vs : List PV} {σ : PS} {ios : List PV} {i : Nat} {k : PK}, outsP pk vs σ = some ios → pk[i]? = some k → k ≠ .pl → ∃ v, σ[i]? = some (some v) ∧ isLk v = false := by
  induction pk with
  | nil => intro vs σ ios i k e e1; simp at e1
  | cons k0 ks ih =>
    intro vs σ ios i k e e1 n
    cases vs with
    | nil => cases k0 <;> simp [outsP] at e
    | cons v vs =>
      cases σ with
      | nil => cases k0 <;> simp [outsP] at e
      | cons s σ =>
        by_cases kp : k0 = .pl
        · subst kp
          simp only [outsP] at e
          cases i with
          | zero => simp at e1; exact absurd e1.symm n
          | succ i =>
            cases y : outsP ks vs σ with
            | none => rw [y] at e; cases e
            | some ios' => have := ih (σ := σ) (i := i) y (by simpa using e1) n; simpa using this
        · cases s with
          | none => cases k0 <;> first | exact absurd rfl kp | simp [outsP] at e
          | some w =>
            have e' : (if isLk w then none else (outsP ks vs σ).map (w :: ·)) = some ios := by cases k0 <;> first | exact absurd rfl kp | exact e
            split at e'
            · cases e'
            · rename_i hl
              cases i with
              | zero => exact ⟨w, rfl, by simpa using hl⟩
              | succ i =>
                cases y : outsP ks vs σ with
                | none => rw [y] at e'; cases e'
                | some ios' => have := ih (σ := σ) (i := i) y (by simpa using e1) n; simpa using this
/-- at the end of a body -/
theorem exit_ok {f : FP} (g : f.good = true) {Z Z' : Nat → Prop} {h h' : MH} {ms : List MV} {vs : List PV} {ts : List (Option Nat)} {σ0 σ' : PS} {μ' : MS'} {r' : Nat → Option Nat} {k : Nat} {o o' : Opd} {m : MV} {ios : List PV}
    (pf : PF (TN Z ts) h f.pk ms vs ts) (nz : ∀ t, some t ∈ ts → ¬ Z t) (S : St (clS f ts) Z' h' σ' μ' r') (F : Fr Z h σ0 (rOf ts) Z' h' σ' r') (km : lkμ (clS f ts) σ0 (ms.map some ++ List.replicate k none) μ')
    (T : TO (clS f ts) Z Z' h' μ' r' o m) (nb : o.isB = false) (e : exitP f vs o σ' = .ok o' ios) : ∃ Z'', CallR Z h f.pk ms ts o' ios m h' Z'' := by
  unfold exitP at e
  split at e
  · rename_i ios' eo
    have slotm : ∀ i m, ms[i]? = some m → (ms.map some ++ List.replicate k none)[i]? = some (some m) := fun i m e => by
      rw [List.getElem?_append_left (by simpa using get_lt e), List.getElem?_map, e]; rfl
    have mu : ∀ (i : Nat) (kk : PK) (m : MV), f.pk[i]? = some kk → kk ≠ .pl → ms[i]? = some m → μ'[i]? = some (some m) := fun i kk m e1 e2 e3 => by
      rw [km i (.inr ?_), slotm i m e3]
      cases kk with
      | pl => exact absurd rfl e2
      | io => exact .inl ((clS_pk g e1 e2).2.1 rfl)
      | br => exact .inr ((clS_pk g e1 e2).2.2.2.1 rfl)
    have old : ∀ a, NN Z (rOf ts) a ↔ TN Z ts a := NN_TN
    -- what each shared parameter holds
    have hold : ∀ (i : Nat) (kk : PK) (m : MV) (w : PV), f.pk[i]? = some kk → kk ≠ .pl → ms[i]? = some m → σ'[i]? = some (some w) → isLk w = false →
        (∀ t, ts[i]? = some (some t) → r' i = some t ∧ Rt (NN Z' r') h' t w) ∧ (ts[i]? = some none → Rd (NN Z' r') h' m w ∧ (kk = .io → isLD w = false)) := fun i kk m w e1 e2 e3 e4 e5 => by
      obtain ⟨m1, g1, hd⟩ := S.ow i w (clS_pk g e1 e2).1 e4
      rw [mu i kk m e1 e2 e3] at g1
      cases g1
      refine ⟨fun t et => ?_, fun et => ?_⟩
      · obtain ⟨v, k0, f1, f2, f3, f4⟩ := pf.root et
        obtain ⟨m0, k1, f5, f6, q2⟩ := pf.get f1
        rw [e3] at f5; cases f5
        have em : m = .ref t := by
          rw [e1] at f6; cases f6
          rcases q2 with ⟨a, _⟩ | ⟨_, t', em, et', _⟩ | ⟨_, _, et', _⟩
          · exact absurd a e2
          · rw [et] at et'; cases et'; exact em
          · rw [et] at et'; cases et'
        subst em
        cases hd with
        | fz a b c =>
          rcases c with c | c
          · exact absurd c ((clS_pk g e1 e2).2.2.2.2 t et)
          · rw [b.ref_ld] at c; cases c
        | rt t' a b c => cases b; exact ⟨a, c⟩
        | lk a b => subst b; cases e5
      · have lv : i < vs.length := by rw [pf.len.2.1]; exact get_lt e1
        obtain ⟨vi, hvi⟩ : ∃ x, vs[i]? = some x := ⟨_, List.getElem?_eq_getElem lv⟩
        obtain ⟨m0, k1, f5, f6, q2⟩ := pf.get hvi
        rw [e3] at f5; cases f5
        rw [e1] at f6; cases f6
        obtain ⟨q0, q3⟩ : (kk = .io → isLD vi = false) ∧ Rd (TN Z ts) h m vi := by
          rcases q2 with ⟨a, _⟩ | ⟨_, t', em, et', _⟩ | ⟨_, a, et', b⟩
          · exact absurd a e2
          · rw [et] at et'; cases et'
          · exact ⟨a, b⟩
        cases hd with
        | fz a b c =>
          refine ⟨b, fun ki => ?_⟩
          rcases c with c | c
          · subst ki; rw [(clS_pk g e1 e2).2.1 rfl] at c; cases c
          · exact c
        | lk a b => subst b; cases e5
        | rt a ra em c =>
          exfalso
          subst em
          have na : ∃ x, h[a]? = some x ∧ ¬ TN Z ts a := by
            cases q3 with
            | lst n e _ => exact ⟨_, e, n⟩
            | fro n e _ => exact ⟨_, e, n⟩
            | dct n e _ => exact ⟨_, e, n⟩
          obtain ⟨x, ex, n⟩ := na
          rcases F.nn a (.inr ⟨i, ra⟩) with w | w
          · exact n ((old a).mp w)
          · have := get_lt ex; omega
    have hrt : ∀ t, some t ∈ ts → ∃ i, r' i = some t := fun t q => by
      obtain ⟨i, et⟩ := List.getElem?_of_mem q
      obtain ⟨v, kk, e1, e2, e3, q⟩ := pf.root et
      obtain ⟨w, e4, e5⟩ := outs_set eo e2 e3
      have lm : i < ms.length := by rw [pf.len.1]; exact get_lt e2
      exact ⟨i, ((hold i kk _ w e2 e3 (List.getElem?_eq_getElem lm) e4 e5).1 t et).1⟩
    have sub : ∀ a, TN Z' ts a → NN Z' r' a := fun a y => by
      rcases y with y | y
      · exact .inl y
      · exact .inr (hrt a y)
    have zn : ∀ a, Z' a → Z a ∨ h.length ≤ a := fun a y => by
      rcases F.nn a (.inl y) with w | w
      · rcases (old a).mp w with w | w
        · exact .inl w
        · obtain ⟨i, w⟩ := hrt a w
          exact absurd y (S.rt i a w).2.2
      · exact .inr w
    have pf' : PF (TN Z' ts) h' f.pk ms ios' ts := pf.set (fun m v q => ((F.rd (q.weak fun a y => (old a).mp y)).weak sub)) eo fun i kk m w e1 e2 e3 e4 e5 => by
      obtain ⟨a, b⟩ := hold i kk m w e1 e2 e3 e4 e5
      exact ⟨fun t et => (a t et).2.weak sub, fun et => ⟨(b et).1.weak sub, (b et).2⟩⟩
    have same : ∀ a x, h[a]? = some x → some a ∉ ts → h'[a]? = some x := fun a x ex n => F.same a x ex fun i z => n (rOf_mem z).1
    have wz : ∀ a, TN Z ts a → TN Z' ts a := fun a y => y.imp (F.zz a) id
    have zb' : ∀ a, Z a → a < h'.length := fun a y => S.zb a (F.zz a y)
    have frozen : Rd (TN Z ts) h' m o.v := (T.frz S F.zz nb).weak fun a y => by
      rcases y with y | y
      · exact .inl y
      · exact .inr (hrt a y)
    have cv : CallR Z h f.pk ms ts (.val o.v) ios' m h' Z := ⟨fun _ y => y, zb', fun _ y => .inl y, F.len, same, pf'.weak wz, frozen⟩
    split at e
    · cases o with
      | bor i => cases nb
      | val v =>
        dsimp only at e
        split at e
        · cases e
        · cases e; exact ⟨Z, cv⟩
      | own v =>
        cases e
        obtain ⟨t, a, b, c, d⟩ := T
        exact ⟨Z', F.zz, S.zb, zn, F.len, same, pf', ⟨t, a, b, c, d.weak sub⟩⟩
    · cases e; exact ⟨Z, cv⟩
  · cases e
/-- a table of defs with their kinds stands for the table of the small ones -/
structure GOk (Γ : Str → Option FD) (ΓP : Str → Option FP) : Prop where
  fd : ∀ f d, ΓP f = some d → Γ f = some ⟨d.np, d.nl, d.body⟩
/-- a def whose one parameter is a refusal -/
theorem runE_ok {Γ : Str → Option FD} {ΓP : Str → Option FP} {gl : Str → Option MV} {W : Nat} (G : GOk Γ ΓP) {X : CQ} {M : Cm} (h1 : X.callE = runEP ΓP gl W) (h2 : M.callE = runE Γ gl W) : CallEOk X M := by
  intro f c fs ms o ios hr e N h hN
  rw [h1] at e
  rw [h2]
  unfold runEP at e
  cases q : ΓP f with
  | none => rw [q] at e; cases e
  | some fd =>
    rw [q] at e
    have hg := G.fd f fd q
    simp only [runE, hg]
    dsimp only at e
    split at e
    · rename_i hp
      rw [if_pos hp]
      split at e
      · rename_i v σ1 e1
        cases e
        have none_at : ∀ {α : Type} (i : Nat) (v : α), (List.replicate fd.nl (none : Option α))[i]? ≠ some (some v) := fun i v z => by
          rw [List.getElem?_replicate] at z
          split at z <;> cases z
        have S0 : St fd.cl N h (List.replicate fd.nl none) (List.replicate fd.nl none) (fun _ => none) :=
          ⟨by simp, fun i v _ z => absurd z (none_at i v), fun i v _ z => absurd z (none_at i v), fun i a z => (by cases z), fun i j a z => (by cases z), hN⟩
        obtain ⟨mf, h', μ', r', Z', q1, S, F, k, m, rfl, T, nb⟩ := sss' fd.body (X := { call := fun _ _ => .bad, sig := fun _ => none, cl := fd.cl, gl := gl, fuel := W, ex := some (c, fs, 0) })
          (M := { call := fun _ _ _ => .bad, gl := gl, fuel := W, ex := some (c, ms, 0) }) ⟨fun f pk fr z => (by cases z), rfl, rfl, ⟨rfl, rfl, hr⟩, fun f c fs ms o ios _ z => (by cases z)⟩ N h _ _ _ S0 _ _ e1
        exact ⟨v, m, h', rfl, by rw [q1]; rfl, F.len, fun a x ex => F.same a x ex (fun i z => by cases z), Rd.weak (fun a y => .inl (F.zz a y)) T⟩
      · cases e
    · cases e
theorem run_ok {Γ : Str → Option FD} {ΓP : Str → Option FP} {gl : Str → Option MV} {W : Nat} (G : GOk Γ ΓP) : ∀ (d : Nat) (X : CQ), X.call = runP ΓP gl W d → X.sig = sigP ΓP → CallOk X (runF Γ gl W d) := by
  intro d
  induction d with
  | zero => intro X hX hs f pk fr _ vs o ios e; rw [hX] at e; simp only [runP] at e; cases e
  | succ d ih =>
    intro X hX hs f pk fr hsig vs o ios e Z h ms ts pf zb nd nz
    rw [hX] at e
    rw [hs] at hsig
    unfold sigP at hsig
    cases q : ΓP f with
    | none => rw [q] at hsig; cases hsig
    | some fd =>
      rw [q] at hsig
      simp only [Option.map_some, Option.some.injEq, Prod.mk.injEq] at hsig
      obtain ⟨rfl, rfl⟩ := hsig
      simp only [runP, q] at e
      split at e
      · rename_i hl
        have hg := G.fd f fd q
        have lm : ms.length = fd.np := by rw [pf.len.1, ← pf.len.2.1]; exact hl.1
        let X0 : CQ := { call := runP ΓP gl W d, sig := sigP ΓP, cl := fd.cl, gl := gl, fuel := W, callE := runEP ΓP gl W }
        let X1 : CQ := { X0 with cl := clS fd ts }
        have ev : ∀ σ, evTs' X1 fd.body σ = evTs' X0 fd.body σ := evTs'_cl fd.body (X := X0) (clS_eq hl.2)
        have S0 := St.start (k := fd.nl - fd.np) hl.2 pf zb nd nz
        have main := sss' fd.body (X := X1) (M := { call := runF Γ gl W d, gl := gl, fuel := W, callE := runE Γ gl W }) ⟨ih X1 rfl rfl, rfl, rfl, True.intro, runE_ok G rfl rfl⟩ Z h _ _ _ S0
        simp only [runF, hg, lm, if_true]
        unfold finP at e
        split at e
        · rename_i o1 σ1 e1
          obtain ⟨mf, h', μ', r', Z', q1, S, F, km, m, rfl, T, nb⟩ := main _ _ ((ev _).trans e1)
          obtain ⟨Z'', C⟩ := exit_ok hl.2 pf nz S F km T nb e
          exact ⟨m, h', Z'', by rw [q1]; rfl, C⟩
        · rename_i σ1 e1
          obtain ⟨mf, h', μ', r', Z', q1, S, F, km, rfl, rfl⟩ := main _ _ ((ev _).trans e1)
          obtain ⟨Z'', C⟩ := exit_ok (o := .val .non) (m := .non) hl.2 pf nz S F km Rd.non rfl e
          exact ⟨.non, h', Z'', by rw [q1]; rfl, C⟩
        · split at e <;> cases e
        · cases e
      · cases e
/-- the law's call -/
theorem law_of_run {Γ : Str → Option FD} {ΓP : Str → Option FP} {gl : Str → Option MV} {W d : Nat} (G : GOk Γ ΓP) {ns : List Int} {f : Str} {fr : Bool} {ios : List PV} {o : Opd} (hs : sigP ΓP f = some ([.pl], fr)) (e : runP ΓP gl W d f [.fro (ns.map .int)] = .ok o ios) (ho : o.v = .bl true) :
    ∃ mh', runF Γ gl W d f [.ref 0] [.fro (ns.map .int)] = .ok (.bl true) mh' := by
  obtain ⟨m, h', Z', e1, C⟩ := run_ok (W := W) G d { call := runP ΓP gl W d, sig := sigP ΓP, cl := fun _ => .sh, gl := gl, fuel := W } rfl rfl f _ fr hs _ o ios e (fun _ => False) [.fro (ns.map .int)] [.ref 0] [none]
    (.pl (.fro (by rintro (z | z) <;> simp at z) rfl (Rds.ints ns)) .nil) (fun _ z => z.elim) (by simp) (fun t z => by simp at z)
  have := C.res
  cases o with
  | val v => cases ho; cases this; exact ⟨h', e1⟩
  | own v => cases ho; obtain ⟨t, _, _, _, y⟩ := this; cases y
  | bor i => cases ho
end Mn


set_option autoImplicit false
set_option maxHeartbeats 1000000
/-! PLib: how runs over trees are shown. -/
namespace Mn
open PySem L2
/-- a type that names a value: what is told there is looked at by nobody ahead of its turn -/
abbrev Dep {τ : Type} (x : τ) (T : Type) : Type := T
def bnd {α β : Type} (q : Q α) (f : α → PS → Q β) : Dep f (Q β) := q.bind f
def Evq {α : Type} (q : Q α) (P : α → PS → Prop) : Prop := ∃ a σ, q = .ok a σ ∧ P a σ
section
variable {α β : Type} {q : Q α} {f : α → PS → Q β} {P : β → PS → Prop} {R R' : α → PS → Prop} {a : α} {σ : PS}
theorem Evq.bind (e : Evq q fun a σ => Evq (f a σ) P) : Evq (q.bind f) P := by
  obtain ⟨a, h, rfl, b, h', e, p⟩ := e
  exact ⟨b, h', e, p⟩
theorem Evq.ok (p : R a σ) : Evq (.ok a σ) R := ⟨a, σ, rfl, p⟩
theorem Evq.imp (e : Evq q R) (i : ∀ a σ, R a σ → R' a σ) : Evq q R' := by
  obtain ⟨a, h, e, p⟩ := e
  exact ⟨a, h, e, i a h p⟩
theorem Evq.of (e : q = .ok a σ) (p : R a σ) : Evq q R := ⟨a, σ, e, p⟩
theorem Evq.bnd (e : Evq q fun a σ => Evq (f a σ) P) : Evq (Mn.bnd q f) P := Evq.bind e
theorem qq_ok : (Q.ok a σ).bind f = f a σ := rfl
theorem qq_assoc {γ : Type} {g : β → PS → Q γ} : (q.bind f).bind g = q.bind fun a σ => (f a σ).bind g := by cases q <;> rfl
theorem qb_ok : Mn.bnd (Q.ok a σ) f = f a σ := rfl
theorem qb_assoc {γ : Type} {g : β → PS → Q γ} : Mn.bnd (Mn.bnd q f) g = Mn.bnd q fun a σ => Mn.bnd (f a σ) g := by cases q <;> rfl
end
/-- the call comes to a value and the shared parameters -/
def Evc (r : CR) (P : PV → List PV → Prop) : Prop := ∃ v ios, r = .ok (.val v) ios ∧ P v ios
def Evo (r : CR) (P : Opd → List PV → Prop) : Prop := ∃ v ios, r = .ok v ios ∧ P v ios
def clOf (cs : List Cls) (i : Nat) : Cls := (cs[i]?).getD .sh
def exitQ (pk : List PK) (fr : Bool) (vs : List PV) (o : Opd) (σ : PS) : CR := match outsP pk vs σ with
  | some ios => if fr then (match o with
      | .own v => .ok (.own v) ios
      | .val v => if isLD v then .bad else .ok (.val v) ios
      | .bor _ => .bad)
    else .ok (.val o.v) ios
  | none => .bad
def finQ (pk : List PK) (fr : Bool) (vs : List PV) (r : Q FlP) : CR := match r with
  | .ok (.ret o) σ => exitQ pk fr vs o σ
  | .ok .nx σ => exitQ pk fr vs (.val .non) σ
  | .exc c fs σ => match outsP pk vs σ with
    | some ios => .exc c fs ios
    | none => .bad
  | _ => .bad
/-- where a def's body runs -/
abbrev cqOf (Γ : Str → Option FP) (gl : Str → Option MV) (W d : Nat) (c : Nat → Cls) : CQ := { call := runP Γ gl W d, sig := sigP Γ, cl := c, gl := gl, fuel := W, callE := runEP Γ gl W }
theorem run_eq {Γ : Str → Option FP} {gl : Str → Option MV} {W d np nl : Nat} {f : Str} {vs : List PV} {body : List MS} {cs : List Cls} {pk : List PK} {fr : Bool} (e : Γ f = some ⟨np, nl, body, cs, pk, fr⟩) (hl : vs.length = np) (g : (FP.mk np nl body cs pk fr).good = true) :
    runP Γ gl W (d + 1) f vs = finQ pk fr vs (evTs' (cqOf Γ gl W d (clOf cs)) body (vs.map some ++ List.replicate (nl - np) none)) := by
  simp only [runP, e, hl, g, and_self, if_true]
  rfl
theorem finQ_ret {pk : List PK} {fr : Bool} {vs : List PV} {o : Opd} {σ : PS} : finQ pk fr vs (.ok (.ret o) σ) = exitQ pk fr vs o σ := rfl
theorem finQ_nx {pk : List PK} {fr : Bool} {vs : List PV} {σ : PS} : finQ pk fr vs (.ok .nx σ) = exitQ pk fr vs (.val .non) σ := rfl
/-- what is to hold where a body ends -/
def RP (pk : List PK) (fr : Bool) (vs : List PV) (P : Opd → List PV → Prop) (fl : FlP) (σ : PS) : Prop := match fl with
  | .ret o => Evo (exitQ pk fr vs o σ) P
  | .nx => Evo (exitQ pk fr vs (.val .non) σ) P
  | _ => False
theorem RP.ret {pk : List PK} {fr : Bool} {vs : List PV} {P : Opd → List PV → Prop} {o : Opd} {σ : PS} (h : Evo (exitQ pk fr vs o σ) P) : RP pk fr vs P (.ret o) σ := h
theorem RP.nx {pk : List PK} {fr : Bool} {vs : List PV} {P : Opd → List PV → Prop} {σ : PS} (h : Evo (exitQ pk fr vs (.val .non) σ) P) : RP pk fr vs P .nx σ := h
theorem finQ_ev {pk : List PK} {fr : Bool} {vs : List PV} {q : Q FlP} {P : Opd → List PV → Prop} (b : Evq q (RP pk fr vs P)) : Evo (finQ pk fr vs q) P := by
  obtain ⟨fl, σ, e, p⟩ := b
  rw [e]
  cases fl with
  | ret o => exact p
  | nx => exact p
  | brk => exact p.elim
  | cont => exact p.elim
/-- the first n statements, then the others -/
theorem tk' {X : CQ} (n : Nat) {ss : List MS} {σ : PS} : evTs' X ss σ = (evTs' X (ss.take n) σ).bind fun fl σ => match fl with
    | .nx => evTs' X (ss.drop n) σ
    | f => .ok f σ := by
  induction n generalizing ss σ with
  | zero => simp only [List.take_zero, List.drop_zero, evTs', qq_ok]
  | succ n ih =>
    cases ss with
    | nil => simp only [List.take_nil, List.drop_nil, evTs']; rfl
    | cons s ss =>
      simp only [List.take_succ_cons, List.drop_succ_cons, evTs', qq_assoc]
      congr 1
      funext fl σ
      cases fl with
      | nx => exact ih
      | _ => rfl
theorem sig_eq {Γ : Str → Option FP} {f : Str} {fd : FP} (e : Γ f = some fd) : sigP Γ f = some (fd.pk, fd.fr) := by unfold sigP; rw [e]; rfl
theorem Evo.imp {r : CR} {P P' : Opd → List PV → Prop} (e : Evo r P) (i : ∀ a σ, P a σ → P' a σ) : Evo r P' := by
  obtain ⟨a, h, e, p⟩ := e
  exact ⟨a, h, e, i a h p⟩
theorem Evo.ok {P : Opd → List PV → Prop} {o : Opd} {ios : List PV} (p : P o ios) : Evo (.ok o ios) P := ⟨o, ios, rfl, p⟩
/-! ### reading -/
theorem rd_ok {σ : PS} {i : Nat} {v : PV} (e : σ[i]? = some (some v)) (n : isLk v = false) : rdV σ i = some v := by
  unfold rdV; rw [e]; simp [n]
section
variable {s : Option PV} {σ : PS} {i : Nat} {v : PV} {b : Bool} {x y : Int} {xs ys : List PV} {kvs : List (Key × PV)} {z : Str}
theorem rd_s : rdV (s :: σ) (i + 1) = rdV σ i := rfl
theorem rd_non : rdV (some .non :: σ) 0 = some .non := rfl
theorem rd_bl : rdV (some (.bl b) :: σ) 0 = some (.bl b) := rfl
theorem rd_int : rdV (some (.int x) :: σ) 0 = some (.int x) := rfl
theorem rd_str : rdV (some (.str z) :: σ) 0 = some (.str z) := rfl
theorem rd_tup : rdV (some (.tup xs) :: σ) 0 = some (.tup xs) := rfl
theorem rd_lst : rdV (some (.lst xs) :: σ) 0 = some (.lst xs) := rfl
theorem rd_fro : rdV (some (.fro xs) :: σ) 0 = some (.fro xs) := rfl
theorem rd_dct : rdV (some (.dct kvs) :: σ) 0 = some (.dct kvs) := rfl
theorem rd_any (n : isLk v = false) : rdV (some v :: σ) 0 = some v := by simp [rdV, n]
theorem rd_lck : rdV (some .lck :: σ) 0 = none := rfl
theorem rd_none : rdV (none :: σ) 0 = none := rfl
theorem ld_non : isLD .non = false := rfl
theorem ld_bl : isLD (.bl b) = false := rfl
theorem ld_int : isLD (.int x) = false := rfl
theorem ld_str : isLD (.str z) = false := rfl
theorem ld_tup : isLD (.tup xs) = false := rfl
theorem ld_lst : isLD (.lst xs) = true := rfl
theorem ld_fro : isLD (.fro xs) = true := rfl
theorem ld_dct : isLD (.dct kvs) = true := rfl
theorem kd_str' : kdP (.str z) = some .str := rfl
theorem kd_tup' : kdP (.tup xs) = some .tuple := rfl
theorem kd_lst' : kdP (.lst xs) = some .list := rfl
theorem kd_dct' : kdP (.dct kvs) = some .dict := rfl
theorem lk_non : isLk .non = false := rfl
theorem lk_bl : isLk (.bl b) = false := rfl
theorem lk_int : isLk (.int x) = false := rfl
theorem lk_str : isLk (.str z) = false := rfl
theorem lk_tup : isLk (.tup xs) = false := rfl
theorem lk_lst : isLk (.lst xs) = false := rfl
theorem lk_fro : isLk (.fro xs) = false := rfl
theorem lk_dct : isLk (.dct kvs) = false := rfl
theorem lk_lck : isLk .lck = true := rfl
/-! single steps -/
theorem tr_bl : truthP (.bl b) = some b := rfl
theorem tr_int : truthP (.int x) = some (x != 0) := rfl
theorem tr_non : truthP .non = some false := rfl
theorem tr_tup : truthP (.tup xs) = some (!xs.isEmpty) := rfl
theorem tr_lst : truthP (.lst xs) = some (!xs.isEmpty) := rfl
theorem bp_add : binP .Add (.int x) (.int y) = some (.val (.int (x + y))) := rfl
theorem bp_sub : binP .Sub (.int x) (.int y) = some (.val (.int (x - y))) := rfl
theorem bp_mul (c : x.natAbs < 2 ^ 64 ∨ y.natAbs < 2 ^ 64) : binP .Mult (.int x) (.int y) = some (.val (.int (x * y))) := by simp only [binP, c, if_true]
theorem bp_mulc (c : x.natAbs < 2 ^ 64) : binP .Mult (.int x) (.int y) = some (.val (.int (x * y))) := bp_mul (.inl c)
theorem bp_div (c : 0 < y ∧ y < 1073741824) : binP .FloorDiv (.int x) (.int y) = some (.val (.int (x / y))) := by simp only [binP, c, and_self, if_true]
theorem bp_mod (c : 0 < y) : binP .Mod (.int x) (.int y) = some (.val (.int (x % y))) := by simp only [binP, c, if_true]
theorem bp_pow (c : 0 ≤ y ∧ y ≤ 1000000 ∧ x.natAbs < 2 ^ 64) : binP .Pow (.int x) (.int y) = some (.val (.int (x ^ y.toNat))) := by simp only [binP, c, and_self, if_true]
theorem bp_shl (c : 0 ≤ y ∧ y ≤ 1000000 ∧ x.natAbs < 2 ^ 64) : binP .LShift (.int x) (.int y) = some (.val (.int (x * 2 ^ y.toNat))) := by simp only [binP, c, and_self, if_true]
theorem bp_shr (c : 0 ≤ y) : binP .RShift (.int x) (.int y) = some (.val (.int (x / 2 ^ y.toNat))) := by simp only [binP, c, if_true]
theorem bp_band : binP .BitAnd (.int x) (.int y) = some (.val (.int (Builtin.bitAnd x y))) := rfl
theorem bp_addT (c : xs.length + ys.length ≤ lineM) : binP .Add (.tup xs) (.tup ys) = some (.val (.tup (xs ++ ys))) := by simp only [binP, c, if_true]
theorem bp_addL (c : xs.length + ys.length ≤ lineM) : binP .Add (.lst xs) (.lst ys) = some (.own (.lst (xs ++ ys))) := by simp only [binP, c, if_true]
theorem bp_mulL (c : -(2 ^ 63) ≤ x ∧ x < 2 ^ 63 ∧ xs.length * x.toNat ≤ lineM) : binP .Mult (.lst xs) (.int x) = some (.own (.lst (List.replicate x.toNat xs).flatten)) := by simp only [binP, c, and_self, if_true]
theorem bp_mulT (c : 2 ≤ x ∧ x ≤ 1000 ∧ xs.length ≤ 1000 ∧ xs ≠ []) : binP .Mult (.tup xs) (.int x) = some (.val (.tup (List.replicate x.toNat xs).flatten)) := by simp only [binP, c, and_self, if_true, ne_eq, not_false_eq_true]
theorem shp_int {i : Int} : shp (.int i) = true := rfl
theorem eqP_int : eqP (.int x) (.int y) = some (x == y) := by
  simp [eqP, strOfP, eqDP, dP, shp_int, PyData.eqv]
theorem eqP_str {a b : Str} : eqP (.str a) (.str b) = some (decide (a = b)) := rfl
theorem cp_eqI : cmpP .Eq (.int x) (.int y) = some (x == y) := eqP_int
theorem cp_neI : cmpP .NotEq (.int x) (.int y) = some (!(x == y)) := by simp only [cmpP, eqP_int, Option.map_some]
theorem cp_eqS {a b : Str} : cmpP .Eq (.str a) (.str b) = some (decide (a = b)) := rfl
theorem cp_neS {a b : Str} : cmpP .NotEq (.str a) (.str b) = some (!decide (a = b)) := rfl
theorem cp_lt : cmpP .Lt (.int x) (.int y) = some (decide (x < y)) := rfl
theorem cp_le : cmpP .LtE (.int x) (.int y) = some (decide (x ≤ y)) := rfl
theorem cp_gt : cmpP .Gt (.int x) (.int y) = some (decide (y < x)) := rfl
theorem cp_ge : cmpP .GtE (.int x) (.int y) = some (decide (y ≤ x)) := rfl
theorem cp_in {v w : PV} : cmpP .In v w = inP v w := rfl
theorem cp_notin {v w : PV} : cmpP .NotIn v w = (inP v w).map (!·) := rfl
theorem cp_isN : cmpP .Is v .non = some (isNon v) := rfl
theorem cp_isnN : cmpP .IsNot v .non = some (!isNon v) := rfl
theorem mx_int : bltP .max [.int x, .int y] = some (.val (.int (if y > x then y else x))) := rfl
theorem mn_int : bltP .min [.int x, .int y] = some (.val (.int (if y < x then y else x))) := rfl
theorem ln_tup : bltP .len [.tup xs] = some (.val (.int xs.length)) := rfl
theorem ln_lst : bltP .len [.lst xs] = some (.val (.int xs.length)) := rfl
theorem ln_fro : bltP .len [.fro xs] = some (.val (.int xs.length)) := rfl
theorem tu_lst : bltP .tuple [.lst xs] = some (.val (.tup xs)) := rfl
theorem tu_tup : bltP .tuple [.tup xs] = some (.val (.tup xs)) := rfl
theorem li_tup : bltP .list [.tup xs] = some (.own (.lst xs)) := rfl
theorem li_lst : bltP .list [.lst xs] = some (.own (.lst xs)) := rfl
theorem in_bl : bltP .int [.bl b] = some (.val (.int (if b then 1 else 0))) := rfl
theorem in_int : bltP .int [.int x] = some (.val (.int x)) := rfl
end
theorem ixN_nat {n k : Nat} (h : k < n) : ixN n (k : Int) = some k := by unfold ixN; rw [if_pos (by omega), if_pos (by omega)]; simp
theorem at_nat {α : Type} {l : List α} {k : Nat} : atI l (k : Int) = l[k]? := by
  unfold atI
  by_cases h : k < l.length
  · rw [ixN_nat h]; rfl
  · unfold ixN; rw [if_pos (by omega), if_neg (by omega), List.getElem?_eq_none (by omega)]; rfl
/-- the last one -/
theorem at_last {α : Type} {l : List α} {a : α} : atI (l ++ [a]) (-1) = some a := by
  unfold atI ixN
  rw [if_neg (by omega), if_pos (by simp; omega)]
  have : ((-1 : Int) + ((l ++ [a]).length : Nat)).toNat = l.length := by simp; omega
  simp only [Option.bind_some, this]; simp
theorem at_0 {α : Type} {a : α} {l : List α} : atI (a :: l) 0 = some a := at_nat (k := 0)
theorem at_1 {α : Type} {a b : α} {l : List α} : atI (a :: b :: l) 1 = some b := at_nat (k := 1)
theorem at_2 {α : Type} {a b c : α} {l : List α} : atI (a :: b :: c :: l) 2 = some c := at_nat (k := 2)
theorem at_3 {α : Type} {a b c d : α} {l : List α} : atI (a :: b :: c :: d :: l) 3 = some d := at_nat (k := 3)
theorem ix_tup' {xs : List PV} {i : Int} : ixP (.tup xs) (.int i) = atI xs i := rfl
theorem ix_lst' {xs : List PV} {i : Int} : ixP (.lst xs) (.int i) = atI xs i := rfl
theorem set_nat {xs : List PV} {k : Nat} {v : PV} (h : k < xs.length) : setV (.lst xs) (.int (k : Int)) v = some (.lst (xs.set k v)) := by
  simp only [setV, ixN_nat h, Option.bind_some, h, if_true]
/-! ### the evaluator's rules, made so that nothing is looked at ahead of its turn -/
def ob {α β : Type} (o : Option α) (f : α → Q β) : Dep f (Q β) := match o with
  | some a => f a
  | none => .bad
def br {β : Type} (o : Option Bool) (a b : Q β) : Dep (a, b) (Q β) := match o with
  | some true => a
  | some false => b
  | none => .bad
theorem ob_some {α β : Type} {x : α} {f : α → Q β} : ob (some x) f = f x := rfl
theorem br_t {β : Type} {a b : Q β} : br (some true) a b = a := rfl
theorem br_f {β : Type} {a b : Q β} : br (some false) a b = b := rfl
def compD (cl : Nat → Cls) (tg : MT) (own : List Nat) (ts : PS → Q Bool) (el : PS → Q PV) (xs : List PV) (σ0 : PS) : Dep (ts, el) (Q (List PV)) := compQ cl tg own ts el xs σ0
def forD (step : PV → PS → Q FlP) (xs : List PV) (σ : PS) : Dep step (Q FlP) := forP step xs σ
def whlD (test : PS → Q Opd) (step : PS → Q FlP) (n : Nat) (σ : PS) : Dep (test, step) (Q FlP) := whlP test step n σ
section
variable {X : CQ} {σ : PS} {a b c e : ME} {es : List ME} {i : Nat}
theorem w_int {x : Int} : evP X (.c (.int x)) σ = .ok (.val (.int x)) σ := by simp only [evP]; rfl
theorem w_bl {x : Bool} : evP X (.c (.bl x)) σ = .ok (.val (.bl x)) σ := by simp only [evP]; rfl
theorem w_str {x : Str} : evP X (.c (.str x)) σ = .ok (.val (.str x)) σ := by simp only [evP]; rfl
theorem w_non : evP X (.c .non) σ = .ok (.val .non) σ := by simp only [evP]; rfl
theorem w_var : evP X (.var i) σ = ob (rdV σ i) fun v => if X.cl i = .sh then .ok (.val v) σ else .ok (.bor i) σ := by simp only [evP]; cases rdV σ i <;> rfl
theorem w_glb {x : Str} : evP X (.glb x) σ = ob (X.gl x) fun v => if noRef v then .ok (.val (emb v)) σ else .bad := by simp only [evP]; cases X.gl x <;> rfl
theorem w_tup : evP X (.tup es) σ = bnd (evPs X es σ) fun os σ => ob (forces X.cl os σ) fun p => .ok (.val (.tup p.1)) p.2 := by
  simp only [evP]; refine congrArg _ (funext fun os => funext fun σ => ?_); cases forces X.cl os σ <;> rfl
theorem w_lst : evP X (.lst es) σ = bnd (evPs X es σ) fun os σ => ob (forces X.cl os σ) fun p => .ok (.own (.lst p.1)) p.2 := by
  simp only [evP]; refine congrArg _ (funext fun os => funext fun σ => ?_); cases forces X.cl os σ <;> rfl
theorem oO_ob {α : Type} {o : Option α} {σ : PS} : oO o σ = ob o fun x => .ok x σ := by cases o <;> rfl
theorem oB_ob {o : Option Bool} {σ : PS} : oB o σ = ob o fun x => .ok (.val (.bl x)) σ := by cases o <;> rfl
theorem oV_ob {o : Option PV} {σ : PS} : oV o σ = ob o fun x => .ok (.val x) σ := by cases o <;> rfl
theorem w_bin {op : Operator} : evP X (.bin op a b) σ = bnd (evP X a σ) fun o σ => bnd (evP X b σ) fun p σ => ob (on2 σ o p (binP op)) fun x => .ok x σ := by simp only [evP, oO_ob]; rfl
theorem w_neg : evP X (.neg a) σ = bnd (evP X a σ) fun o σ => ob (intO σ o) fun i => .ok (.val (.int (-i))) σ := by
  simp only [evP]; refine congrArg _ (funext fun o => funext fun σ => ?_); cases intO σ o <;> rfl
theorem w_not : evP X (.not_ a) σ = bnd (evP X a σ) fun o σ => ob (on1 σ o truthP) fun x => .ok (.val (.bl (!x))) σ := by
  simp only [evP]; refine congrArg _ (funext fun o => funext fun σ => ?_); cases on1 σ o truthP <;> rfl
theorem w_cmp {op : CmpOp} : evP X (.cmp op a b) σ = bnd (evP X a σ) fun o σ => bnd (evP X b σ) fun p σ => ob (on2 σ o p (cmpP op)) fun x => .ok (.val (.bl x)) σ := by simp only [evP, oB_ob]; rfl
theorem w_chain {o1 o2 : CmpOp} : evP X (.chain o1 o2 a b c) σ = bnd (evP X a σ) fun o σ => bnd (evP X b σ) fun p σ => br (on2 σ o p (cmpP o1)) (bnd (evP X c σ) fun q σ => ob (on2 σ p q (cmpP o2)) fun x => .ok (.val (.bl x)) σ) (.ok (.val (.bl false)) σ) := by
  simp only [evP, oB_ob]; refine congrArg _ (funext fun o => funext fun σ => congrArg _ (funext fun p => funext fun σ => ?_)); rcases on2 σ o p (cmpP o1) with _ | (_ | _) <;> rfl
theorem w_and : evP X (.and_ a b) σ = bnd (evP X a σ) fun o σ => br (on1 σ o truthP) (evP X b σ) (.ok o σ) := by
  simp only [evP]; refine congrArg _ (funext fun o => funext fun σ => ?_); rcases on1 σ o truthP with _ | (_ | _) <;> rfl
theorem w_or : evP X (.or_ a b) σ = bnd (evP X a σ) fun o σ => br (on1 σ o truthP) (.ok o σ) (evP X b σ) := by
  simp only [evP]; refine congrArg _ (funext fun o => funext fun σ => ?_); rcases on1 σ o truthP with _ | (_ | _) <;> rfl
theorem w_ife : evP X (.ife c a b) σ = bnd (evP X c σ) fun o σ => br (on1 σ o truthP) (evP X a σ) (evP X b σ) := by
  simp only [evP]; refine congrArg _ (funext fun o => funext fun σ => ?_); rcases on1 σ o truthP with _ | (_ | _) <;> rfl
theorem w_ix : evP X (.ix a b) σ = bnd (evP X a σ) fun o σ => bnd (evP X b σ) fun p σ => ob (on2 σ o p ixP) fun x => .ok (.val x) σ := by simp only [evP, oV_ob]; rfl
theorem w_sl : evP X (.sl a) σ = bnd (evP X a σ) fun o σ => ob (on1 σ o fun x => slP x none none) fun x => .ok x σ := by simp only [evP, oO_ob]; rfl
theorem w_slL : evP X (.slL a b) σ = bnd (evP X a σ) fun o σ => bnd (evP X b σ) fun p σ => ob (intO σ p) fun i => ob (on1 σ o fun x => slP x (some i) none) fun x => .ok x σ := by
  simp only [evP, oO_ob]; congr 1; funext o σ; refine congrArg _ (funext fun p => funext fun σ => ?_); cases intO σ p <;> rfl
theorem w_slH : evP X (.slH a b) σ = bnd (evP X a σ) fun o σ => bnd (evP X b σ) fun p σ => ob (intO σ p) fun i => ob (on1 σ o fun x => slP x none (some i)) fun x => .ok x σ := by
  simp only [evP, oO_ob]; congr 1; funext o σ; refine congrArg _ (funext fun p => funext fun σ => ?_); cases intO σ p <;> rfl
theorem w_slB : evP X (.slB a b c) σ = bnd (evP X a σ) fun o σ => bnd (evP X b σ) fun p σ => ob (intO σ p) fun i => bnd (evP X c σ) fun q σ => ob (intO σ q) fun j => ob (on1 σ o fun x => slP x (some i) (some j)) fun x => .ok x σ := by
  simp only [evP, oO_ob]; congr 1; funext o σ; refine congrArg _ (funext fun p => funext fun σ => ?_); cases intO σ p with
  | none => rfl
  | some i => simp only [ob]; refine congrArg _ (funext fun q => funext fun σ => ?_); cases intO σ q <;> rfl
theorem w_rev : evP X (.rev a) σ = bnd (evP X a σ) fun o σ => ob (on1 σ o revP) fun x => .ok x σ := by simp only [evP, oO_ob]; rfl
theorem w_call {f : Str} : evP X (.call f es) σ = bnd (evPs X es σ) fun os σ => callP X f os σ := by simp only [evP]; rfl
theorem w_blt {f : Bi} : evP X (.blt f es) σ = bnd (evPs X es σ) fun os σ => ob (looks σ os) fun vs => ob (bltP f vs) fun x => .ok x σ := by
  simp only [evP, oO_ob]; refine congrArg _ (funext fun os => funext fun σ => ?_); cases looks σ os <;> rfl
theorem w_meth {m : Me} : evP X (.meth m a es) σ = bnd (evP X a σ) fun o σ => ob (on1 σ o kdP) fun kd => bnd (evPs X es σ) fun os σ => methO X.cl m kd o os σ := by
  simp only [evP]; refine congrArg _ (funext fun o => funext fun σ => ?_); cases on1 σ o kdP <;> rfl
theorem w_isi {t : Ty} : evP X (.isi a t) σ = bnd (evP X a σ) fun o σ => ob (on1 σ o fun x => isiP x t) fun x => .ok (.val (.bl x)) σ := by simp only [evP, oB_ob]; rfl
theorem w_dsp : evP X (.dsp es) σ = bnd (evPs X es σ) fun os σ => ob (forces X.cl os σ) fun p => ob (pairUpP p.1) fun ps => .ok (.own (.dct (ps.foldl (fun acc kv => putKP kv.1 kv.2 acc) []))) p.2 := by
  simp only [evP]; refine congrArg _ (funext fun os => funext fun σ => ?_); cases forces X.cl os σ with
  | none => rfl
  | some p => obtain ⟨vs, σ⟩ := p; simp only [ob]; cases pairUpP vs <;> rfl
theorem w_rngL : evP X (.rngL a b) σ = bnd (evP X a σ) fun o σ => bnd (evP X b σ) fun p σ => ob (on2 σ o p rngP) fun xs => .ok (.own (.lst xs)) σ := by
  simp only [evP]; congr 1; funext o σ; refine congrArg _ (funext fun p => funext fun σ => ?_); cases on2 σ o p rngP <;> rfl
theorem w_rngT : evP X (.rngT a b) σ = bnd (evP X a σ) fun o σ => bnd (evP X b σ) fun p σ => ob (on2 σ o p rngP) fun xs => .ok (.val (.tup xs)) σ := by
  simp only [evP]; congr 1; funext o σ; refine congrArg _ (funext fun p => funext fun σ => ?_); cases on2 σ o p rngP <;> rfl
/-- what a comprehension walks, where it may be made -/
def lcSrc (cl : Nat → Cls) (tg : MT) (own : List Nat) (ik : IK) (oa ob : Opd) (σ : PS) : Option (PV × PV × List PV × PS) := match srcP ik oa ob σ with
  | some (x, y, xs, σ) => if lcOk cl tg own && decide (xs.length ≤ lineM) then some (x, y, xs, σ) else none
  | none => none
theorem w_lc {tg : MT} {ik : IK} {ifs : List ME} {own : List Nat} : evP X (.lc e tg ik a b ifs own) σ = bnd (evP X a σ) fun oa σ => bnd (evP X b σ) fun ob' σ => ob (lcSrc X.cl tg own ik oa ob' σ) fun p =>
    bnd (compD X.cl tg own (fun σ => evPts X ifs σ) (fun σ => bnd (evP X e σ) fun o σ => forceQ X.cl o σ) p.2.2.1 p.2.2.2) fun vs σ => .ok (.own (.lst vs)) (unlockO oa p.1 (unlockO ob' p.2.1 σ)) := by
  simp only [evP]; congr 1; funext oa σ; congr 1; funext ob' σ
  unfold lcSrc
  cases srcP ik oa ob' σ with
  | none => rfl
  | some p =>
    obtain ⟨x, y, xs, σ⟩ := p
    dsimp only
    split <;> rfl
theorem w_srtS : evP X (.srtS a) σ = bnd (evP X a σ) fun o σ => ob (on1 σ o srtP) fun x => .ok x σ := by simp only [evP, oO_ob]; rfl
theorem w_lenS : evP X (.lenS a) σ = bnd (evP X a σ) fun o σ => ob (on1 σ o lenP) fun x => .ok x σ := by simp only [evP, oO_ob]; rfl
/-- it is no refusal -/
def okO (o : Opd) : Option Unit := match decO o with
  | some none => some ()
  | _ => none
theorem w_callN {f : Str} : evP X (.callN f es) σ = bnd (evPs X es σ) fun os σ => bnd (callP X f os σ) fun o σ => ob (okO o) fun _ => .ok o σ := by
  simp only [evP]; congr 1; funext os σ; refine congrArg _ (funext fun o => funext fun σ => ?_); unfold okO; rcases decO o with _ | (_ | _) <;> rfl
theorem w_isX {k : Nat} {cs : List Str} : evP X (.isX k cs) σ = ob (X.at k) fun p => ob (isXM p.1 cs) fun x => .ok (.val (.bl x)) σ := by
  simp only [evP, oB_ob]; cases X.at k <;> rfl
theorem w_fldX {k : Nat} {x : Str} : evP X (.fldX k x) σ = ob (X.at k) fun p => ob (fldXP p.1 p.2 x) fun x => .ok (.val x) σ := by
  simp only [evP, oV_ob]; cases X.at k <;> rfl
def toE (r : CR) : Option Opd := match r with
  | .ok o _ => some o
  | _ => none
theorem w_callE {f : Str} {k : Nat} : evP X (.callE f k) σ = ob (X.at k) fun p => ob (toE (X.callE f p.1 p.2)) fun o => .ok o σ := by
  simp only [evP]
  cases X.at k with
  | none => rfl
  | some p => obtain ⟨c, fs⟩ := p; simp only [ob]; cases X.callE f c fs <;> rfl
theorem w_retC : evT X (.retC e) σ = bnd (evP X e σ) fun o σ => ob (force X.cl o σ) fun p => ob (okO p.1) fun _ => .ok (.ret p.1) p.2 := by
  simp only [evT]; refine congrArg _ (funext fun o => funext fun σ => ?_)
  cases force X.cl o σ with
  | none => rfl
  | some p => obtain ⟨o, σ⟩ := p; simp only [ob]; unfold okO; rcases decO o with _ | (_ | _) <;> rfl
def rsO (c : Str) (vs : List PV) : Option PV := if raisableP c vs then some (encXP c vs) else none
theorem w_raise {f : Str} : evT X (.raise f es) σ = bnd (evPs X es σ) fun os σ => ob (forces X.cl os σ) fun p => ob (rsO f p.1) fun v => .ok (.ret (.val v)) p.2 := by
  simp only [evT]; refine congrArg _ (funext fun os => funext fun σ => ?_)
  cases forces X.cl os σ with
  | none => rfl
  | some p => obtain ⟨vs, σ⟩ := p; simp only [ob]; unfold rsO; split <;> rfl
/-- on, unless it is a refusal -/
def xo (r : Option (Option (Str × List PV))) (σ : PS) (k : Q FlP) : Dep k (Q FlP) := match r with
  | some (some (c, fs)) => .ok (.ret (.val (encXP c fs))) σ
  | some none => k
  | none => .bad
theorem xo_n {σ : PS} {k : Q FlP} : xo (some none) σ k = k := rfl
theorem xo_s {σ : PS} {k : Q FlP} {c : Str} {fs : List PV} : xo (some (some (c, fs))) σ k = .ok (.ret (.val (encXP c fs))) σ := rfl
theorem w_asgX {tg : MT} {f : Str} : evT X (.asgX tg f es) σ = bnd (evP X (.call f es) σ) fun o σ => xo (decO o) σ (ob (asgF X.cl tg o σ) fun σ => .ok .nx σ) := by
  simp only [evT]; refine congrArg _ (funext fun o => funext fun σ => ?_)
  rcases decO o with _ | (_ | _)
  · rfl
  · simp only [xo]; cases asgF X.cl tg o σ <;> rfl
  · rfl
theorem w_exprX {f : Str} : evT X (.exprX f es) σ = bnd (evP X (.call f es) σ) fun o σ => xo (decO o) σ (.ok .nx σ) := by
  simp only [evT]; refine congrArg _ (funext fun o => funext fun σ => ?_)
  rcases decO o with _ | (_ | _) <;> rfl
theorem w_retX {f : Str} : evT X (.retX f es) σ = bnd (evP X (.call f es) σ) fun o σ => ob (force X.cl o σ) fun p => .ok (.ret p.1) p.2 := by
  simp only [evT]; refine congrArg _ (funext fun o => funext fun σ => ?_); cases force X.cl o σ <;> rfl
def txH (X : CQ) (c : Str) (k : Option Nat) (hd : List MS) (c' : Str) (fs : List PV) (σ : PS) : Option (CQ × PS) :=
  if isXM c' [c] = some true ∧ okKP X.cl k σ = true then some (X.with k c' fs, wipeKP k σ) else none
def okK2 (cl : Nat → Cls) (k : Option Nat) (σ : PS) : Option PS := if okKP cl k σ = true then some (wipeKP k σ) else none
def txW (cl : Nat → Cls) (w : Wr) (tg : MT) (o : Opd) (σ : PS) : Option PS := match wrapP w o with
  | some (some o) => asgF cl tg o σ
  | some none => some σ
  | none => none
/-- a try: what the call told, the handler, the way on -/
def tx (r : Option (Option (Str × List PV))) (h : Str → List PV → Q FlP) (k : Q FlP) : Dep (h, k) (Q FlP) := match r with
  | some (some (c, fs)) => h c fs
  | some none => k
  | none => .bad
theorem tx_n {h : Str → List PV → Q FlP} {k : Q FlP} : tx (some none) h k = k := rfl
theorem tx_s {h : Str → List PV → Q FlP} {k : Q FlP} {c : Str} {fs : List PV} : tx (some (some (c, fs))) h k = h c fs := rfl
theorem w_tryC {w : Wr} {tg : MT} {f cc : Str} {k : Option Nat} {hd : List MS} : evT X (.tryC w tg f es cc k hd) σ = bnd (evP X (.call f es) σ) fun o σ => tx (decO o)
    (fun c' fs => ob (txH X cc k hd c' fs σ) fun p => bnd (evTs' p.1 hd p.2) fun fl σ => ob (okK2 X.cl k σ) fun σ => .ok fl σ) (ob (txW X.cl w tg o σ) fun σ => .ok .nx σ) := by
  simp only [evT]; refine congrArg _ (funext fun o => funext fun σ => ?_)
  rcases decO o with _ | (_ | ⟨c', fs⟩)
  · rfl
  · simp only [tx, txW]
    rcases wrapP w o with _ | (_ | o)
    · rfl
    · rfl
    · dsimp only
      cases asgF X.cl tg o σ <;> rfl
  · simp only [tx, txH]
    split
    · simp only [ob, bnd]
      refine congrArg _ (funext fun fl => funext fun σ => ?_)
      unfold okK2
      split <;> rfl
    · rfl
theorem dec_own {v : PV} : decO (.own v) = some none := rfl
theorem dec_non : decO (.val .non) = some none := rfl
theorem dec_bl {x : Bool} : decO (.val (.bl x)) = some none := rfl
theorem dec_int {x : Int} : decO (.val (.int x)) = some none := rfl
theorem dec_str {x : Str} : decO (.val (.str x)) = some none := rfl
theorem dec_lst {x : List PV} : decO (.val (.lst x)) = some none := rfl
theorem dec_tup0 : decO (.val (.tup [])) = some none := rfl
theorem dec_tupI {i : Int} {x : List PV} : decO (.val (.tup (.int i :: x))) = some none := rfl
theorem dec_tupB {i : Bool} {x : List PV} : decO (.val (.tup (.bl i :: x))) = some none := rfl
theorem dec_tupN {x : List PV} : decO (.val (.tup (.non :: x))) = some none := rfl
theorem dec_tupT {y x : List PV} : decO (.val (.tup (.tup y :: x))) = some none := rfl
theorem dec_tupL {y x : List PV} : decO (.val (.tup (.lst y :: x))) = some none := rfl
theorem dec_ints {α : Type} {f : α → Int} {x : List α} : decO (.val (.tup (x.map fun a => .int (f a)))) = some none := by cases x <;> rfl
theorem dec_enc {f : Str} {fs : List PV} (h : fs.all flatP = true) : decO (.val (encXP f fs)) = some (some (f, fs)) := by
  simp only [decO, encXP, decXP, h, if_true]
theorem okO_of {o : Opd} (h : decO o = some none) : okO o = some () := by unfold okO; rw [h]
theorem rsO_ok {f : Str} {vs : List PV} (h : raisableP f vs = true) : rsO f vs = some (encXP f vs) := by unfold rsO; rw [if_pos h]
theorem txW_val {cl : Nat → Cls} {tg : MT} {o : Opd} {σ : PS} : txW cl .val tg o σ = asgF cl tg o σ := rfl
theorem txW_drop {cl : Nat → Cls} {tg : MT} {o : Opd} {σ : PS} : txW cl .drop tg o σ = some σ := rfl
theorem txW_isT {cl : Nat → Cls} {tg : MT} {b : Bool} {σ : PS} : txW cl .isT tg (.val (.bl b)) σ = asgF cl tg (.val (.bl b)) σ := rfl
theorem txW_ifT {cl : Nat → Cls} {tg : MT} {σ : PS} : txW cl .ifT tg (.val (.bl true)) σ = asgF cl tg (.val (.bl true)) σ := rfl
theorem txW_ifF {cl : Nat → Cls} {tg : MT} {σ : PS} : txW cl .ifT tg (.val (.bl false)) σ = some σ := rfl
theorem txH_ok {f g : Str} {k : Option Nat} {hd : List MS} {fs : List PV} (h : isXM g [f] = some true) (h2 : okKP X.cl k σ = true) : txH X f k hd g fs σ = some (X.with k g fs, wipeKP k σ) := by unfold txH; rw [if_pos ⟨h, h2⟩]
theorem txH_no {f g : Str} {hd : List MS} {fs : List PV} (h : isXM g [f] = some true) : txH X f none hd g fs σ = some (X.with none g fs, σ) := txH_ok h rfl
theorem txH_sh {f g : Str} {k : Nat} {v : Option PV} {hd : List MS} {fs : List PV} (h : isXM g [f] = some true) (hc : X.cl k = .sh) (hk : σ[k]? = some v) (hv : v ≠ some .lck) : txH X f (some k) hd g fs σ = some (X.with (some k) g fs, σ.set k none) := by
  refine txH_ok h ?_
  have : k < σ.length := (List.getElem?_eq_some_iff.mp hk).1
  simp only [okKP, hc, hk, this, decide_true, Bool.and_self, Bool.true_and]
  split
  · rename_i z; cases z; exact absurd rfl hv
  · rfl
theorem okK2_no {cl : Nat → Cls} : okK2 cl none σ = some σ := rfl
theorem okK2_sh {cl : Nat → Cls} {k : Nat} {v : Option PV} (hc : cl k = .sh) (hk : σ[k]? = some v) (hv : v ≠ some .lck) : okK2 cl (some k) σ = some (σ.set k none) := by
  have : k < σ.length := (List.getElem?_eq_some_iff.mp hk).1
  unfold okK2
  rw [if_pos]
  · rfl
  simp only [okKP, hc, hk, this, decide_true, Bool.and_self, Bool.true_and]
  split
  · rename_i z; cases z; exact absurd rfl hv
  · rfl
theorem with_cl {f : Str} {k : Option Nat} {fs : List PV} : (X.with k f fs).cl = X.cl := rfl
theorem with_call {f : Str} {k : Option Nat} {fs : List PV} : (X.with k f fs).call = X.call := rfl
theorem with_sig {f : Str} {k : Option Nat} {fs : List PV} : (X.with k f fs).sig = X.sig := rfl
theorem with_gl {f : Str} {k : Option Nat} {fs : List PV} : (X.with k f fs).gl = X.gl := rfl
theorem with_E {f : Str} {k : Option Nat} {fs : List PV} : (X.with k f fs).callE = X.callE := rfl
theorem at_with {f : Str} {k : Nat} {fs : List PV} : (X.with (some k) f fs).at k = some (f, fs) := by simp [CQ.at, CQ.with]
theorem w_es0 : evPs X [] σ = .ok [] σ := by simp only [evPs]
theorem w_es1 : evPs X (e :: es) σ = bnd (evP X e σ) fun o σ => bnd (evPs X es σ) fun os σ => .ok (o :: os) σ := by simp only [evPs]; rfl
theorem w_ts0 : evPts X [] σ = .ok true σ := by simp only [evPts]
theorem w_ts1 : evPts X (e :: es) σ = bnd (evP X e σ) fun o σ => br (on1 σ o truthP) (evPts X es σ) (.ok false σ) := by
  simp only [evPts]; refine congrArg _ (funext fun o => funext fun σ => ?_); rcases on1 σ o truthP with _ | (_ | _) <;> rfl
theorem w_asg {tg : MT} : evT X (.asg tg e) σ = bnd (evP X e σ) fun o σ => ob (asgF X.cl tg o σ) fun σ => .ok .nx σ := by
  simp only [evT]; refine congrArg _ (funext fun o => funext fun σ => ?_); cases asgF X.cl tg o σ <;> rfl
def subO (cl : Nat → Cls) (oe ob oi : Opd) (σ : PS) : Option PS := match force cl oe σ with
  | some (v, σ) => match ob, lookO σ oi with
    | .bor j, some y => if canP cl j then ((rdV σ j).bind fun x => setV x y v.v).map fun x' => σ.set j (some x') else none
    | _, _ => none
  | none => none
theorem w_asgSub : evT X (.asgSub a b e) σ = bnd (evP X e σ) fun oe σ => bnd (evP X a σ) fun ob' σ => bnd (evP X b σ) fun oi σ => ob (subO X.cl oe ob' oi σ) fun σ => .ok .nx σ := by
  simp only [evT]; congr 1; funext oe σ; congr 1; funext ob' σ; congr 1; funext oi σ
  unfold subO
  cases force X.cl oe σ with
  | none => rfl
  | some p =>
    obtain ⟨v, σ⟩ := p
    cases ob' with
    | val _ => rfl
    | own _ => rfl
    | bor j =>
      dsimp only
      cases lookO σ oi with
      | none => rfl
      | some y =>
        dsimp only
        split
        · cases (rdV σ j).bind fun x => setV x y v.v <;> rfl
        · rfl
theorem w_expr : evT X (.expr e) σ = bnd (evP X e σ) fun _ σ => .ok .nx σ := by simp only [evT]; rfl
theorem w_ret : evT X (.ret e) σ = bnd (evP X e σ) fun o σ => ob (force X.cl o σ) fun p => .ok (.ret p.1) p.2 := by
  simp only [evT]; refine congrArg _ (funext fun o => funext fun σ => ?_); cases force X.cl o σ <;> rfl
theorem w_retN : evT X .retN σ = .ok (.ret (.val .non)) σ := by simp only [evT]
theorem w_ite {s t : List MS} : evT X (.ite e s t) σ = bnd (evP X e σ) fun o σ => br (on1 σ o truthP) (evTs' X s σ) (evTs' X t σ) := by
  simp only [evT]; refine congrArg _ (funext fun o => funext fun σ => ?_); rcases on1 σ o truthP with _ | (_ | _) <;> rfl
theorem w_for {tg : MT} {ik : IK} {s : List MS} : evT X (.for_ tg ik a b s) σ = bnd (evP X a σ) fun oa σ => bnd (evP X b σ) fun ob' σ => ob (srcP ik oa ob' σ) fun p =>
    bnd (forD (fun v σ => forStepP (asgP X.cl tg v σ) (fun σ => evTs' X s σ)) p.2.2.1 p.2.2.2) fun fl σ => .ok fl (unlockO oa p.1 (unlockO ob' p.2.1 σ)) := by
  simp only [evT]; congr 1; funext oa σ; refine congrArg _ (funext fun ob' => funext fun σ => ?_); cases srcP ik oa ob' σ <;> rfl
theorem w_whl {s : List MS} : evT X (.whl e s) σ = whlD (fun σ => evP X e σ) (fun σ => evTs' X s σ) X.fuel σ := by simp only [evT]; rfl
theorem w_pass : evT X .pass σ = .ok .nx σ := by simp only [evT]
theorem w_brk : evT X .brk σ = .ok .brk σ := by simp only [evT]
theorem w_cont : evT X .cont σ = .ok .cont σ := by simp only [evT]
theorem w_ss0 : evTs' X [] σ = .ok .nx σ := by simp only [evTs']
/-- the statements behind -/
def thenP (X : CQ) (ss : List MS) (fl : FlP) (σ : PS) : Q FlP := match fl with
  | .nx => evTs' X ss σ
  | f => .ok f σ
theorem w_ss1 {s : MS} {ss : List MS} : evTs' X (s :: ss) σ = bnd (evT X s σ) (thenP X ss) := by
  simp only [evTs']; refine congrArg _ (funext fun fl => funext fun σ => ?_); cases fl <;> rfl
theorem tk (n : Nat) {ss : List MS} : evTs' X ss σ = bnd (evTs' X (ss.take n) σ) (thenP X (ss.drop n)) := by
  rw [tk' n]; refine congrArg _ (funext fun fl => funext fun σ => ?_); cases fl <;> rfl
theorem th_nx {ss : List MS} : thenP X ss .nx σ = evTs' X ss σ := rfl
theorem th_ret {ss : List MS} {o : Opd} : thenP X ss (.ret o) σ = .ok (.ret o) σ := rfl
theorem th_brk {ss : List MS} : thenP X ss .brk σ = .ok .brk σ := rfl
theorem th_cont {ss : List MS} : thenP X ss .cont σ = .ok .cont σ := rfl
end
def lcNx (el : PS → Q PV) (b : Bool) (σ : PS) : Q (Option PV) := match b with
  | true => bnd (el σ) fun y σ => .ok (some y) σ
  | false => .ok none σ
theorem lc_some {ts : PS → Q Bool} {el : PS → Q PV} {σ : PS} : lcStepP (some σ) ts el = bnd (ts σ) (lcNx el) := by
  show (ts σ).bind _ = (ts σ).bind _
  refine congrArg _ (funext fun b => funext fun σ => ?_); cases b <;> rfl
theorem lc_t {el : PS → Q PV} {σ : PS} : lcNx el true σ = bnd (el σ) fun y σ => .ok (some y) σ := rfl
theorem lc_f {el : PS → Q PV} {σ : PS} : lcNx el false σ = .ok none σ := rfl
theorem fs_some {b : PS → Q FlP} {σ : PS} : forStepP (some σ) b = b σ := rfl
/-! ### loops -/
theorem rng_len {lo : Int} {n : Nat} : (rngIP lo n).length = n := by simp [rngIP]
theorem rng_at {lo : Int} {n i : Nat} {v : PV} (e : (rngIP lo n)[i]? = some v) : v = .int (lo + i) ∧ i < n := by
  have := List.getElem?_eq_some_iff.mp e
  obtain ⟨h, e⟩ := this
  simp [rngIP] at h e
  exact ⟨e.symm, h⟩
theorem it_rng' {n : Nat} (h : n ≤ 1000000) : itP .rng1 (.int (n : Int)) .non = some (rngIP 0 n) := by
  simp only [itP]
  rw [if_pos (by omega)]
  simp
theorem it_rng2' {m n : Nat} (h : n ≤ 1000000) (h2 : m ≤ 1000000) : itP .rng2 (.int (m : Int)) (.int (n : Int)) = some (rngIP m (n - m)) := by
  simp only [itP]
  rw [if_pos (by omega)]
  congr 2
  omega
theorem rngP_ok {n : Nat} (h : n ≤ 1000000) : rngP (.int 0) (.int (n : Int)) = some (rngIP 0 n) := by
  simp only [rngP]
  rw [if_pos (by refine ⟨by omega, by omega, by omega, by omega, ?_⟩; simp [lineM]; exact h)]
  simp
theorem it_tup {xs : List PV} : itP .val (.tup xs) .non = some xs := rfl
theorem it_lst {xs : List PV} : itP .val (.lst xs) .non = some xs := rfl
theorem it_etup {xs : List PV} : itP .enum (.tup xs) .non = some (enumP xs) := rfl
theorem it_elst {xs : List PV} : itP .enum (.lst xs) .non = some (enumP xs) := rfl
theorem pop_at {xs : List PV} {k : Nat} (h : k < xs.length) (h2 : k < 1000000) : methP .pop (.lst xs) [.int (k : Int)] = some (xs[k], .lst (xs.eraseIdx k)) := by
  simp only [methP]
  rw [if_pos (by omega)]
  simp [h]
theorem app_at {xs : List PV} {v : PV} (h : xs.length < 1000000) : methP .append (.lst xs) [v] = some (.non, .lst (xs ++ [v])) := by
  simp only [methP]
  rw [if_pos (by simpa [lineM] using h)]
theorem erase_perm {α : Type} : ∀ {l : List α} {k : Nat} (h : k < l.length), (l[k] :: l.eraseIdx k).Perm l
  | a :: l, 0, _ => by simp
  | a :: l, k + 1, h => by
    simp only [List.getElem_cons_succ, List.eraseIdx_cons_succ]
    exact (List.Perm.swap _ _ _).trans ((erase_perm (by simpa using h)).cons a)
theorem lm_le {n : Nat} (h : n ≤ 1000000) : decide (n ≤ lineM) = true := decide_eq_true (show n ≤ lineM from h)
theorem forP_inv {xs : List PV} {step : PV → PS → Q FlP} {σ : PS} (I : Nat → PS → Prop) (h0 : I 0 σ)
    (turn : ∀ i v σ, xs[i]? = some v → I i σ → Evq (step v σ) fun fl σ' => (fl = .nx ∨ fl = .cont) ∧ I (i + 1) σ') : Evq (forP step xs σ) fun fl σ' => fl = .nx ∧ I xs.length σ' := by
  have go : ∀ (rest pre : List PV) (σ : PS), xs = pre ++ rest → I pre.length σ → Evq (forP step rest σ) fun fl σ' => fl = .nx ∧ I xs.length σ' := by
    intro rest
    induction rest with
    | nil => intro pre σ e p; simp only [forP]; refine .ok ⟨rfl, ?_⟩; rw [e]; simpa using p
    | cons v rest ih =>
      intro pre σ e p
      simp only [forP]
      refine .bind ((turn pre.length v σ (by rw [e]; simp) p).imp fun fl σ' q => ?_)
      have := ih (pre ++ [v]) σ' (by rw [e]; simp) (by simpa using q.2)
      rcases q.1 with rfl | rfl <;> exact this
  exact go xs [] σ rfl h0
/-- a loop that may tell something -/
theorem forP_ret {xs : List PV} {step : PV → PS → Q FlP} {σ : PS} (I : Nat → PS → Prop) (R : Opd → PS → Prop) (h0 : I 0 σ)
    (turn : ∀ i v σ, xs[i]? = some v → I i σ → Evq (step v σ) fun fl σ' => match fl with
      | .nx => I (i + 1) σ'
      | .cont => I (i + 1) σ'
      | .ret o => R o σ'
      | .brk => False) : Evq (forP step xs σ) fun fl σ' => match fl with
      | .nx => I xs.length σ'
      | .ret o => R o σ'
      | _ => False := by
  have go : ∀ (rest pre : List PV) (σ : PS), xs = pre ++ rest → I pre.length σ → Evq (forP step rest σ) fun fl σ' => match fl with
      | .nx => I xs.length σ'
      | .ret o => R o σ'
      | _ => False := by
    intro rest
    induction rest with
    | nil => intro pre σ e p; simp only [forP]; refine .ok ?_; rw [e]; simpa using p
    | cons v rest ih =>
      intro pre σ e p
      simp only [forP]
      refine .bind ((turn pre.length v σ (by rw [e]; simp) p).imp fun fl σ' q => ?_)
      cases fl with
      | nx => exact ih (pre ++ [v]) σ' (by rw [e]; simp) (by simpa using q)
      | cont => exact ih (pre ++ [v]) σ' (by rw [e]; simp) (by simpa using q)
      | ret o => exact .ok q
      | brk => exact q.elim
  exact go xs [] σ rfl h0
theorem wipe_rest {σ0 σ : PS} {own : List Nat} (h : wipeP σ own = wipeP σ0 own) : restP σ0 own σ = σ0 := by
  apply List.ext_getElem?
  intro i
  have hl : σ.length = σ0.length := by rw [← wipeP_len (own := own), h, wipeP_len]
  have := congrArg (fun l => l[i]?) h
  simp only [wipeP_get] at this
  rw [restP_get]
  split
  · by_cases lt : i < σ.length
    · rw [if_pos lt]
      have lt0 : i < σ0.length := by omega
      rw [List.getElem?_eq_getElem lt0]
      rfl
    · rw [if_neg lt, List.getElem?_eq_none (by omega)]
  · rename_i hn
    rw [if_neg hn, if_neg hn] at this
    exact this
/-- a comprehension that changes nothing -/
theorem compQ_pure {α : Type} {L : List α} {f : α → PV} {g : α → Option PV} {cl : Nat → Cls} {tg : MT} {own : List Nat} {ts : PS → Q Bool} {el : PS → Q PV} {σ0 : PS}
    (hs : ∀ a ∈ L, ∃ σa, lcStepP (asgP cl tg (f a) (wipeP σ0 own)) ts el = .ok (g a) σa ∧ wipeP σa own = wipeP σ0 own) : compQ cl tg own ts el (L.map f) σ0 = .ok (L.filterMap g) σ0 := by
  have go : ∀ (L : List α), (∀ a ∈ L, ∃ σa, lcStepP (asgP cl tg (f a) (wipeP σ0 own)) ts el = .ok (g a) σa ∧ wipeP σa own = wipeP σ0 own) → ∀ σ, wipeP σ own = wipeP σ0 own → ∃ σ', compP (fun v σ => lcStepP (asgP cl tg v (wipeP σ own)) ts el) (L.map f) σ = .ok (L.filterMap g) σ' ∧ wipeP σ' own = wipeP σ0 own := by
    intro L
    induction L with
    | nil => intro _ σ h; exact ⟨σ, rfl, h⟩
    | cons a L ih =>
      intro hs σ h
      obtain ⟨σa, e1, e2⟩ := hs a (List.mem_cons_self ..)
      obtain ⟨σ', e3, e4⟩ := ih (fun a q => hs a (List.mem_cons_of_mem _ q)) σa e2
      refine ⟨σ', ?_, e4⟩
      simp only [List.map_cons, compP, h, e1, qq_ok]
      rw [e3]
      simp only [qq_ok]
      cases q : g a <;> simp [q]
  obtain ⟨σ', e1, e2⟩ := go L hs σ0 rfl
  unfold compQ
  rw [e1]
  simp only [qq_ok, wipe_rest e2]
/-- a comprehension that may change variables: their state after each turn -/
theorem compQ_inv {xs : List PV} {cl : Nat → Cls} {tg : MT} {own : List Nat} {ts : PS → Q Bool} {el : PS → Q PV} {σ0 : PS} (I : Nat → List PV → PS → Prop) (h0 : I 0 [] (wipeP σ0 own))
    (turn : ∀ i v ys σ, xs[i]? = some v → I i ys σ → Evq (lcStepP (asgP cl tg v σ) ts el) fun o σ' => I (i + 1) (ys ++ o.toList) (wipeP σ' own))
    {P : List PV → PS → Prop} (fin : ∀ ys σ, I xs.length ys (wipeP σ own) → P ys (restP σ0 own σ)) : Evq (compQ cl tg own ts el xs σ0) P := by
  have go : ∀ (rest pre : List PV) (ys : List PV) (σ : PS), xs = pre ++ rest → I pre.length ys (wipeP σ own) → Evq (compP (fun v σ => lcStepP (asgP cl tg v (wipeP σ own)) ts el) rest σ) fun zs σ' => I xs.length (ys ++ zs) (wipeP σ' own) := by
    intro rest
    induction rest with
    | nil => intro pre ys σ e p; simp only [compP]; refine .ok ?_; rw [e]; simpa using p
    | cons v rest ih =>
      intro pre ys σ e p
      simp only [compP]
      refine .bind ((turn pre.length v ys (wipeP σ own) (by rw [e]; simp) p).imp fun o σ' q => ?_)
      refine .bind ((ih (pre ++ [v]) (ys ++ o.toList) σ' (by rw [e]; simp) (by simpa using q)).imp fun zs σ2 q2 => ?_)
      exact .ok (by simpa using q2)
  unfold compQ
  refine .bind ((go xs [] [] σ0 rfl h0).imp fun zs σ' q => ?_)
  exact .ok (fin zs σ' (by simpa using q))
/-- a while, by a measure -/
theorem whlP_inv {test : PS → Q Opd} {step : PS → Q FlP} (I : Nat → PS → Prop) (D : PS → Prop) {k : Nat} {σ : PS} (h0 : I k σ)
    (turn : ∀ k σ, I k σ → Evq (test σ) fun o σ' => (on1 σ' o truthP = some false ∧ D σ') ∨ (on1 σ' o truthP = some true ∧ Evq (step σ') fun fl σ2 => (fl = .nx ∨ fl = .cont) ∧ ∃ k', k' < k ∧ I k' σ2)) :
    ∀ n, k < n → Evq (whlP test step n σ) fun fl σ' => fl = .nx ∧ D σ' := by
  intro n
  induction n generalizing k σ with
  | zero => intro z; omega
  | succ n ih =>
    intro hn
    simp only [whlP]
    refine .bind ((turn k σ h0).imp fun o σ' q => ?_)
    rcases q with ⟨t, d⟩ | ⟨t, q⟩
    · rw [t]; exact .ok ⟨rfl, d⟩
    · rw [t]
      refine .bind (q.imp fun fl σ2 z => ?_)
      obtain ⟨e, k', lt, i2⟩ := z
      have := ih i2 (by omega)
      rcases e with rfl | rfl <;> exact this
theorem forD_inv {xs : List PV} {step : PV → PS → Q FlP} {σ : PS} (I : Nat → PS → Prop) (h0 : I 0 σ)
    (turn : ∀ i v σ, xs[i]? = some v → I i σ → Evq (step v σ) fun fl σ' => (fl = .nx ∨ fl = .cont) ∧ I (i + 1) σ') : Evq (forD step xs σ) fun fl σ' => fl = .nx ∧ I xs.length σ' := forP_inv I h0 turn
/-- what a loop's turn leaves, where it may tell something -/
def TP (I : PS → Prop) (R : Opd → PS → Prop) (fl : FlP) (σ : PS) : Prop := match fl with
  | .nx => I σ
  | .cont => I σ
  | .ret o => R o σ
  | .brk => False
theorem TP.nx {I : PS → Prop} {R : Opd → PS → Prop} {σ : PS} (h : I σ) : TP I R .nx σ := h
theorem TP.ret {I : PS → Prop} {R : Opd → PS → Prop} {σ : PS} {o : Opd} (h : R o σ) : TP I R (.ret o) σ := h
theorem forD_ret {xs : List PV} {step : PV → PS → Q FlP} {σ : PS} (I : Nat → PS → Prop) (R : Opd → PS → Prop) (h0 : I 0 σ)
    (turn : ∀ i v σ, xs[i]? = some v → I i σ → Evq (step v σ) (TP (I (i + 1)) R)) : Evq (forD step xs σ) fun fl σ' => (fl = .nx ∧ I xs.length σ') ∨ ∃ o, fl = .ret o ∧ R o σ' :=
  (forP_ret I R h0 fun i v σ h1 h2 => (turn i v σ h1 h2).imp fun fl σ' q => by cases fl <;> exact q).imp fun fl σ' q => by
    cases fl with
    | nx => exact .inl ⟨rfl, q⟩
    | ret o => exact .inr ⟨o, rfl, q⟩
    | brk => exact q.elim
    | cont => exact q.elim
theorem compD_pure {α : Type} {L : List α} {f : α → PV} {g : α → Option PV} {cl : Nat → Cls} {tg : MT} {own : List Nat} {ts : PS → Q Bool} {el : PS → Q PV} {σ0 : PS}
    (hs : ∀ a ∈ L, ∃ σa, lcStepP (asgP cl tg (f a) (wipeP σ0 own)) ts el = .ok (g a) σa ∧ wipeP σa own = wipeP σ0 own) : compD cl tg own ts el (L.map f) σ0 = .ok (L.filterMap g) σ0 := compQ_pure hs
theorem rest_wipe {σ0 : PS} {own : List Nat} {σ : PS} : restP σ0 own σ = restP σ0 own (wipeP σ own) := by
  apply List.ext_getElem?
  intro i
  rw [restP_get, restP_get, wipeP_len, wipeP_get]
  split <;> rfl
theorem compD_inv {xs : List PV} {cl : Nat → Cls} {tg : MT} {own : List Nat} {ts : PS → Q Bool} {el : PS → Q PV} {σ0 : PS} (I : Nat → List PV → PS → Prop) (h0 : I 0 [] (wipeP σ0 own))
    (turn : ∀ i v ys σ, xs[i]? = some v → I i ys σ → Evq (lcStepP (asgP cl tg v σ) ts el) fun o σ' => I (i + 1) (ys ++ o.toList) (wipeP σ' own))
    {P : List PV → PS → Prop} (fin : ∀ ys τ, I xs.length ys τ → P ys (restP σ0 own τ)) : Evq (compD cl tg own ts el xs σ0) P := compQ_inv I h0 turn fun ys σ h => by rw [rest_wipe]; exact fin ys _ h
theorem nd_ne {α : Type} {l : List α} (h : l.Nodup) {i j : Nat} (hi : i < l.length) (hj : j < l.length) (e : l[i] = l[j]) : i = j := by
  have := List.pairwise_iff_getElem.mp h
  rcases Nat.lt_trichotomy i j with c | c | c
  · exact absurd e (this i j hi hj c)
  · exact c
  · exact absurd e.symm (this j i hj hi c)
theorem whlD_inv {test : PS → Q Opd} {step : PS → Q FlP} (I : Nat → PS → Prop) (D : PS → Prop) {k : Nat} {σ : PS} (h0 : I k σ)
    (turn : ∀ k σ, I k σ → Evq (test σ) fun o σ' => (on1 σ' o truthP = some false ∧ D σ') ∨ (on1 σ' o truthP = some true ∧ Evq (step σ') fun fl σ2 => (fl = .nx ∨ fl = .cont) ∧ ∃ k', k' < k ∧ I k' σ2)) :
    ∀ n, k < n → Evq (whlD test step n σ) fun fl σ' => fl = .nx ∧ D σ' := whlP_inv I D h0 turn
theorem perm_map_inv {α β : Type} {f : α → β} {l' l : List β} (h : l'.Perm l) : ∀ ts : List α, l = ts.map f → ∃ zs : List α, l' = zs.map f ∧ zs.Perm ts := by
  induction h with
  | nil => intro ts e; obtain rfl : ts = [] := by simpa using e.symm
           exact ⟨[], rfl, .refl _⟩
  | cons x _ ih =>
    intro ts e
    cases ts with
    | nil => cases e
    | cons t ts => simp at e; obtain ⟨rfl, e⟩ := e; obtain ⟨zs, rfl, h⟩ := ih ts e; exact ⟨t :: zs, rfl, h.cons _⟩
  | swap x y l =>
    intro ts e
    match ts, e with
    | [], e => cases e
    | [_], e => simp at e
    | a :: b :: ts, e => simp at e; obtain ⟨rfl, rfl, rfl⟩ := e; exact ⟨b :: a :: ts, rfl, .swap _ _ _⟩
  | trans _ _ ih1 ih2 =>
    intro ts e
    obtain ⟨z2, e2, h2⟩ := ih2 ts e
    obtain ⟨z1, e1, h1⟩ := ih1 z2 e2
    exact ⟨z1, e1, h1.trans h2⟩
/-- one of a written list -/
theorem pick {l : List PV} {r : Int} (h0 : 0 ≤ r) (h1 : r < l.length) : ∃ x ∈ l, atI l r = some x := by
  obtain ⟨k, rfl⟩ : ∃ k : Nat, r = (k : Int) := ⟨r.toNat, by omega⟩
  have hk : k < l.length := by omega
  exact ⟨l[k], List.getElem_mem hk, by rw [at_nat, List.getElem?_eq_getElem hk]⟩
theorem cut_h {xs : List PV} {k : Nat} : cutP xs none (some (k : Int)) = xs.take k := by
  simp only [cutP, HT.sIx_none, List.drop_zero, Nat.sub_zero, HT.sIx_nat]
  rcases Nat.le_total k xs.length with h | h
  · rw [Nat.min_eq_left h]
  · rw [Nat.min_eq_right h, List.take_of_length_le h, List.take_of_length_le (Nat.le_refl _)]
theorem cut_l {xs : List PV} {k : Nat} : cutP xs (some (k : Int)) none = xs.drop k := by
  simp only [cutP, HT.sIx_none, HT.sIx_nat]
  rcases Nat.le_total k xs.length with h | h
  · rw [Nat.min_eq_left h]; exact List.take_of_length_le (by simp)
  · rw [Nat.min_eq_right h, List.drop_of_length_le h, List.drop_of_length_le (Nat.le_refl _)]; simp
theorem cut_b {xs : List PV} {k j : Nat} (h : k ≤ j) : cutP xs (some (k : Int)) (some (j : Int)) = (xs.drop k).take (j - k) := by
  simp only [cutP, HT.sIx_nat]
  rcases Nat.le_total k xs.length with h1 | h1
  · rw [Nat.min_eq_left h1]
    rcases Nat.le_total j xs.length with h2 | h2
    · rw [Nat.min_eq_left h2]
    · rw [Nat.min_eq_right h2, List.take_of_length_le (by simp), List.take_of_length_le (by simp; omega)]
  · rw [Nat.min_eq_right h1, List.drop_of_length_le h1, List.drop_of_length_le (Nat.le_refl _)]; simp
theorem sp_h {xs : List PV} {k : Nat} : slP (.tup xs) none (some (k : Int)) = some (.val (.tup (xs.take k))) := by simp only [slP, cut_h]
theorem sp_l {xs : List PV} {k : Nat} : slP (.tup xs) (some (k : Int)) none = some (.val (.tup (xs.drop k))) := by simp only [slP, cut_l]
theorem sp_b {xs : List PV} {k j : Nat} (h : k ≤ j) : slP (.tup xs) (some (k : Int)) (some (j : Int)) = some (.val (.tup ((xs.drop k).take (j - k)))) := by simp only [slP, cut_b h]
theorem sl_hL {xs : List PV} {k : Nat} : slP (.lst xs) none (some (k : Int)) = some (.own (.lst (xs.take k))) := by simp only [slP, cut_h]
theorem sl_lL {xs : List PV} {k : Nat} : slP (.lst xs) (some (k : Int)) none = some (.own (.lst (xs.drop k))) := by simp only [slP, cut_l]
theorem rv_tup {xs : List PV} : revP (.tup xs) = some (.val (.tup xs.reverse)) := rfl
theorem is_tup {xs : List PV} {t : Ty} : isiP (.tup xs) t = some (decide (t = .tuple)) := rfl
theorem is_int {x : Int} {t : Ty} : isiP (.int x) t = some (decide (t = .int)) := rfl
theorem is_bl {x : Bool} {t : Ty} : isiP (.bl x) t = some (decide (t = .int) || decide (t = .bool)) := rfl
theorem is_lst {xs : List PV} {t : Ty} : isiP (.lst xs) t = some (decide (t = .list)) := rfl
theorem is_str {x : Str} {t : Ty} : isiP (.str x) t = some (decide (t = .str)) := rfl
theorem is_non {t : Ty} : isiP .non t = some false := rfl
theorem compD_id {L : List PV} {g : PV → Option PV} {cl : Nat → Cls} {tg : MT} {own : List Nat} {ts : PS → Q Bool} {el : PS → Q PV} {σ0 : PS}
    (hs : ∀ a ∈ L, Evq (lcStepP (asgP cl tg a (wipeP σ0 own)) ts el) fun o σa => o = g a ∧ wipeP σa own = wipeP σ0 own) : compD cl tg own ts el L σ0 = .ok (L.filterMap g) σ0 := by
  have := compD_pure (f := id) (L := L) (g := g) (cl := cl) (tg := tg) (own := own) (ts := ts) (el := el) (σ0 := σ0) fun a ha => by
    obtain ⟨o, σa, e, rfl, h⟩ := hs a ha
    exact ⟨σa, e, h⟩
  rwa [List.map_id] at this
/-- one value for each -/
theorem compD_map {L : List PV} {g : PV → PV} {cl : Nat → Cls} {tg : MT} {own : List Nat} {ts : PS → Q Bool} {el : PS → Q PV} {σ0 : PS}
    (hs : ∀ a ∈ L, Evq (lcStepP (asgP cl tg a (wipeP σ0 own)) ts el) fun o σa => o = some (g a) ∧ wipeP σa own = wipeP σ0 own) : compD cl tg own ts el L σ0 = .ok (L.map g) σ0 := by
  rw [compD_id hs]
  simp
/-- those of which p holds -/
theorem compD_flt {L : List PV} {p : PV → Bool} {cl : Nat → Cls} {tg : MT} {own : List Nat} {ts : PS → Q Bool} {el : PS → Q PV} {σ0 : PS}
    (hs : ∀ a ∈ L, Evq (lcStepP (asgP cl tg a (wipeP σ0 own)) ts el) fun o σa => o = (if p a then some a else none) ∧ wipeP σa own = wipeP σ0 own) : compD cl tg own ts el L σ0 = .ok (L.filter p) σ0 := by
  rw [compD_id hs]
  congr 1
  rw [← List.filterMap_eq_filter]
  rfl
/-- over a written list -/
theorem compD_of {α : Type} {L : List α} {f : α → PV} {g : α → Option PV} {cl : Nat → Cls} {tg : MT} {own : List Nat} {ts : PS → Q Bool} {el : PS → Q PV} {σ0 : PS}
    (hs : ∀ a ∈ L, Evq (lcStepP (asgP cl tg (f a) (wipeP σ0 own)) ts el) fun o σa => o = g a ∧ wipeP σa own = wipeP σ0 own) : compD cl tg own ts el (L.map f) σ0 = .ok (L.filterMap g) σ0 :=
  compD_pure fun a ha => by
    obtain ⟨o, σa, e, rfl, h⟩ := hs a ha
    exact ⟨σa, e, h⟩
theorem allBls_map {α : Type} {L : List α} {p : α → Bool} : allBlsP (L.map fun a => .bl (p a)) = some (L.map p) := by
  induction L with
  | nil => rfl
  | cons a L ih => simp [allBlsP, ih]
theorem all_map {α : Type} {L : List α} {p : α → Bool} : bltP .all [.lst (L.map fun a => .bl (p a))] = some (.val (.bl (L.all p))) := by
  simp only [bltP, lstsP, Option.bind_some, allBls_map, Option.map_some]
  simp
/-- neither shut nor only read -/
def plain : PV → Bool
  | .fro _ => false
  | .lck => false
  | _ => true
theorem plain_lk {v : PV} (h : plain v = true) : isLk v = false := by cases v <;> first | rfl | cases h
theorem len2 {α : Type} {l : List α} (h : l.length = 2) : ∃ a b, l = [a, b] := by
  match l, h with
  | [a, b], _ => exact ⟨a, b, rfl⟩
theorem len3 {α : Type} {l : List α} (h : l.length = 3) : ∃ a b c, l = [a, b, c] := by
  match l, h with
  | [a, b, c], _ => exact ⟨a, b, c, rfl⟩
theorem beq_cast {n k : Nat} (h : n ≠ k) : ((n : Int) == (k : Int)) = false := by rw [beq_eq_false_iff_ne]; omega
end Mn

set_option autoImplicit false
set_option maxHeartbeats 1000000
/-! PShw: texts of trees. -/
namespace Mn
open PySem L2
def sums (ts : List Str) : Nat := (ts.map fun t => t.length + 2).sum
theorem txt_le : ∀ (ts : List Str) (k : Nat) (acc : Str), (textFrom k acc ts).length ≤ acc.length + sums ts
  | [], _, acc => by simp [textFrom, sums]
  | t :: r, k, acc => by
    have h := txt_le r (k + 1) (acc ++ (if k > 0 then ", " else "" : String) ++ t)
    have e : (acc ++ (if k > 0 then ", " else "" : String) ++ t).length ≤ acc.length + 2 + t.length := by
      rw [Str.length_append, Str.length_append]
      split <;> simp [show ((", " : String) : Str).length = 2 from rfl, show (("" : String) : Str).length = 0 from rfl]
    simp only [sums, List.map_cons, List.sum_cons] at h ⊢
    simp only [textFrom]
    omega
theorem list_le (ts : List Str) : (listText ts).length ≤ 2 + sums ts := by
  have := txt_le ts 0 "["
  have e : (("[" : String) : Str).length = 1 := rfl
  have e2 : (("]" : String) : Str).length = 1 := rfl
  unfold listText
  rw [Str.length_append, e2]
  omega
theorem join_le (ts : List Str) : (Str.join ", " ts).length ≤ sums ts := by
  match ts with
  | [] => exact Nat.zero_le _
  | [x] => simp [Str.join, sums]
  | x :: y :: r =>
    have ih := join_le (y :: r)
    have e : (Str.join ", " (x :: y :: r)) = x ++ ", " ++ Str.join ", " (y :: r) := rfl
    have e2 : ((", " : String) : Str).length = 2 := rfl
    rw [e, Str.length_append, Str.length_append, e2]
    simp only [sums, List.map_cons, List.sum_cons] at ih ⊢
    omega
theorem tuple_le (ts : List Str) : (tupleText ts).length ≤ 3 + sums ts := by
  have h := join_le ts
  have e : (("(" : String) : Str).length = 1 := rfl
  unfold tupleText
  rw [Str.length_append, Str.length_append, e]
  have e2 : (((if ts.length == 1 then ",)" else ")" : String)) : Str).length ≤ 2 := by split <;> decide
  omega
mutual
/-- no dict, ints of at most forty-five figures, right texts -/
def gD : PyData → Bool
  | .none => true
  | .bool _ => true
  | .int i => decide (i.natAbs < 10 ^ 45)
  | .str x => PyData.strOk x
  | .list xs => gDs xs
  | .tuple xs => gDs xs
  | .dict _ => false
def gDs : List PyData → Bool
  | [] => true
  | x :: xs => gD x && gDs xs
end
mutual
def zD : PyData → Nat
  | .none => 5
  | .bool _ => 5
  | .int _ => 46
  | .str x => 10 * x.length + 2
  | .list xs => 4 + zDs xs
  | .tuple xs => 4 + zDs xs
  | .dict _ => 0
def zDs : List PyData → Nat
  | [] => 0
  | x :: xs => zD x + 2 + zDs xs
end
theorem log_small45 {i : Int} (e : i.natAbs < 10 ^ 45) : i.natAbs.log2 < 1920 := by
  by_cases c : i.natAbs = 0
  · rw [c]; decide
  · have h1 : i.natAbs < 2 ^ 200 := Nat.lt_of_lt_of_le e (by decide)
    have := (Nat.log2_lt c).mpr h1
    omega
mutual
theorem gD_show : ∀ d : PyData, gD d = true → d.showable = true ∧ d.hasDict = false ∧ d.canLay0 = true
  | .none, _ => ⟨rfl, rfl, rfl⟩
  | .bool _, _ => ⟨rfl, rfl, rfl⟩
  | .int i, e => by
    simp only [gD, decide_eq_true_eq] at e
    exact ⟨by simp only [PyData.showable, decide_eq_true_eq]; exact log_small45 e, rfl, rfl⟩
  | .str x, e => ⟨rfl, rfl, by simp only [gD] at e; simpa [PyData.canLay0] using e⟩
  | .list xs, e => by
    simp only [gD] at e
    obtain ⟨h1, h2, h3⟩ := gDs_show xs e
    exact ⟨by simpa [PyData.showable] using h1, by simpa [PyData.hasDict] using h2, by simpa [PyData.canLay0] using h3⟩
  | .tuple xs, e => by
    simp only [gD] at e
    obtain ⟨h1, h2, h3⟩ := gDs_show xs e
    exact ⟨by simpa [PyData.showable] using h1, by simpa [PyData.hasDict] using h2, by simpa [PyData.canLay0] using h3⟩
  | .dict _, e => by simp [gD] at e
theorem gDs_show : ∀ ds : List PyData, gDs ds = true → PyData.showableAll ds = true ∧ PyData.hasDictAll ds = false ∧ PyData.canLayAll0 ds = true
  | [], _ => ⟨rfl, rfl, rfl⟩
  | d :: ds, e => by
    simp only [gDs, Bool.and_eq_true] at e
    obtain ⟨h1, h2, h3⟩ := gD_show d e.1
    obtain ⟨g1, g2, g3⟩ := gDs_show ds e.2
    exact ⟨by simp [PyData.showableAll, h1, g1], by simp [PyData.hasDictAll, h2, g2], by simp [PyData.canLayAll0, h3, g3]⟩
end
theorem text_le {x : Str} (e : PyData.strOk x = true) : (reprText x).length ≤ 10 * x.length + 2 := by
  refine StrLaws.reprText_len x fun c hc => ?_
  have h : (x.cps.all fun c => decide (c < 0x110000)) = true := e
  have := Array.all_eq_true'.mp h c (by simpa using hc)
  have := of_decide_eq_true this
  omega
mutual
theorem gD_len : ∀ d : PyData, gD d = true → d.shown.length ≤ zD d
  | .none, _ => by decide
  | .bool b, _ => by cases b <;> decide
  | .int i, e => by
    simp only [gD, decide_eq_true_eq] at e
    have := int_text_length_le10 (k := 45) (by decide) e
    rw [show (PyData.int i).shown = Str.ofString (toString i) from rfl, ofString_length]
    exact this
  | .str x, e => by simp only [gD] at e; exact text_le e
  | .list xs, e => by
    simp only [gD] at e
    have := gDs_len xs e
    have h2 := list_le (PyData.shownAll xs)
    simp only [PyData.shown, zD]
    omega
  | .tuple xs, e => by
    simp only [gD] at e
    have := gDs_len xs e
    have h2 := tuple_le (PyData.shownAll xs)
    simp only [PyData.shown, zD]
    omega
  | .dict _, e => by simp [gD] at e
theorem gDs_len : ∀ ds : List PyData, gDs ds = true → sums (PyData.shownAll ds) ≤ zDs ds
  | [], _ => by decide
  | d :: ds, e => by
    simp only [gDs, Bool.and_eq_true] at e
    have h1 := gD_len d e.1
    have h2 := gDs_len ds e.2
    simp only [sums, PyData.shownAll, List.map_cons, List.sum_cons, zDs] at h2 ⊢
    omega
end
theorem shp_d {d : PyData} (g : gD d = true) (dp : d.depth ≤ 60) : shp d = true := by
  simp only [shp, SeqAt.shaped, (gD_show d g).2.2, Bool.true_and, decide_eq_true_eq]
  omega
mutual
/-- the tree that a value is -/
def tP : PV → PyData
  | .non => .none
  | .bl b => .bool b
  | .int i => .int i
  | .str s => .str s
  | .tup xs => .tuple (tPs xs)
  | .lst xs => .list (tPs xs)
  | .fro xs => .list (tPs xs)
  | .dct _ => .none
  | .lck => .none
def tPs : List PV → List PyData
  | [] => []
  | x :: xs => tP x :: tPs xs
end
mutual
/-- plain: no dict, lists within lists at most n deep, ints of at most forty-five figures -/
def gP : PV → Nat → Bool
  | .non, _ => true
  | .bl _, _ => true
  | .int i, _ => decide (i.natAbs < 10 ^ 45)
  | .str x, _ => PyData.strOk x
  | .tup xs, n => gPs xs n
  | .lst xs, n => match n with
    | 0 => false
    | n + 1 => gPs xs n
  | .fro _, _ => false
  | .dct _, _ => false
  | .lck, _ => false
def gPs : List PV → Nat → Bool
  | [], _ => true
  | x :: xs, n => gP x n && gPs xs n
end
mutual
def zP : PV → Nat
  | .non => 5
  | .bl _ => 5
  | .int _ => 46
  | .str x => 10 * x.length + 2
  | .tup xs => 4 + zPs xs
  | .lst xs => 4 + zPs xs
  | .fro _ => 0
  | .dct _ => 0
  | .lck => 0
def zPs : List PV → Nat
  | [] => 0
  | x :: xs => zP x + 2 + zPs xs
end
mutual
def hP : PV → Nat
  | .tup xs => hPs xs + 1
  | .lst xs => hPs xs + 1
  | .non => 0
  | .bl _ => 0
  | .int _ => 0
  | .str _ => 0
  | .fro _ => 0
  | .dct _ => 0
  | .lck => 0
def hPs : List PV → Nat
  | [] => 0
  | x :: xs => max (hP x) (hPs xs)
end
mutual
theorem gP_tree : ∀ {v : PV} {n : Nat}, gP v n = true → dP v n = some (tP v) ∧ gD (tP v) = true ∧ zD (tP v) = zP v ∧ (tP v).depth = hP v
  | .non, _, _ => ⟨rfl, rfl, rfl, rfl⟩
  | .bl _, _, _ => ⟨rfl, rfl, rfl, rfl⟩
  | .int i, _, e => ⟨rfl, by simpa [tP, gD, gP] using e, rfl, rfl⟩
  | .str x, _, e => ⟨rfl, by simpa [tP, gD, gP] using e, rfl, rfl⟩
  | .tup xs, n, e => by
    simp only [gP] at e
    obtain ⟨a, b, c, d⟩ := gPs_tree e
    exact ⟨by simp only [dP, a, Option.map_some, tP], by simpa [tP, gD] using b, by simp only [tP, zD, zP, c], by simp only [tP, PyData.depth, hP, d]⟩
  | .lst xs, n, e => by
    cases n with
    | zero => simp [gP] at e
    | succ n =>
      simp only [gP] at e
      obtain ⟨a, b, c, d⟩ := gPs_tree e
      exact ⟨by simp only [dP, a, Option.map_some, tP], by simpa [tP, gD] using b, by simp only [tP, zD, zP, c], by simp only [tP, PyData.depth, hP, d]⟩
  | .fro _, _, e => by simp [gP] at e
  | .dct _, _, e => by simp [gP] at e
  | .lck, _, e => by simp [gP] at e
theorem gPs_tree : ∀ {v : List PV} {n : Nat}, gPs v n = true → dPs v n = some (tPs v) ∧ gDs (tPs v) = true ∧ zDs (tPs v) = zPs v ∧ PyData.depthAll (tPs v) = hPs v
  | [], _, _ => ⟨rfl, rfl, rfl, rfl⟩
  | x :: xs, n, e => by
    simp only [gPs, Bool.and_eq_true] at e
    obtain ⟨a, b, c, d⟩ := gP_tree e.1
    obtain ⟨a', b', c', d'⟩ := gPs_tree e.2
    exact ⟨by simp only [dPs, a, a', tPs], by simp [tPs, gDs, b, b'], by simp only [tPs, zDs, zPs, c, c'], by simp only [tPs, PyData.depthAll, hPs, d, d']⟩
end
/-- plain and of bounded text -/
def Pl (v : PV) (z : Nat) : Prop := gP v 5 = true ∧ hP v ≤ 50 ∧ zP v ≤ z
mutual
theorem gP_up : ∀ {v : PV} {n m : Nat}, gP v n = true → n ≤ m → gP v m = true
  | .non, _, _, _, _ => rfl
  | .bl _, _, _, _, _ => rfl
  | .int i, _, _, e, _ => by simpa [gP] using e
  | .str x, _, _, e, _ => by simpa [gP] using e
  | .tup xs, n, m, e, l => by simp only [gP] at e ⊢; exact gPs_up e l
  | .lst xs, n, m, e, l => by
    cases n with
    | zero => simp [gP] at e
    | succ n =>
      cases m with
      | zero => omega
      | succ m => simp only [gP] at e ⊢; exact gPs_up e (by omega)
  | .fro _, _, _, e, _ => by simp [gP] at e
  | .dct _, _, _, e, _ => by simp [gP] at e
  | .lck, _, _, e, _ => by simp [gP] at e
theorem gPs_up : ∀ {v : List PV} {n m : Nat}, gPs v n = true → n ≤ m → gPs v m = true
  | [], _, _, _, _ => rfl
  | x :: xs, n, m, e, l => by
    simp only [gPs, Bool.and_eq_true] at e ⊢
    exact ⟨gP_up e.1 l, gPs_up e.2 l⟩
end
theorem repr_p {v : PV} (g : gP v 6 = true) (h : hP v ≤ 60) (z : zP v ≤ lineM) : bltP .repr [v] = some (.val (.str (tP v).shown)) := by
  obtain ⟨a, b, c, d⟩ := gP_tree g
  obtain ⟨h1, h2, h3⟩ := gD_show _ b
  have h4 := gD_len _ b
  simp only [bltP, a, Option.bind_some, reprD]
  rw [if_pos ⟨h1, h2, by omega, by omega⟩]
  rfl
theorem repr_bl {b : Bool} : bltP .repr [.bl b] = some (.val (.str (tP (.bl b)).shown)) := repr_p rfl (by simp [hP]) (by simp [zP, lineM])
theorem eq_p {v w : PV} (g : gP v 6 = true) (h : hP v ≤ 60) (g' : gP w 6 = true) (h' : hP w ≤ 60) (ns : strOfP v = none ∨ strOfP w = none) : eqP v w = some (PyData.eqv (tP v) (tP w)) := by
  obtain ⟨a, b, c, d⟩ := gP_tree g
  obtain ⟨a', b', c', d'⟩ := gP_tree g'
  have e : eqDP v w = some (PyData.eqv (tP v) (tP w)) := by
    simp only [eqDP, a, a', shp_d b (by omega), shp_d b' (by omega), Bool.and_self, if_true]
  unfold eqP
  rcases ns with ns | ns
  · rw [ns]; exact e
  · rw [ns]; cases strOfP v <;> exact e
/-- plain, and not too deep for == and repr -/
def Gd (v : PV) : Prop := gP v 4 = true ∧ hP v ≤ 40
theorem gPs_mem {xs : List PV} {n : Nat} (h : gPs xs n = true) {v : PV} (hv : v ∈ xs) : gP v n = true := by
  induction xs with
  | nil => cases hv
  | cons x xs ih =>
    simp only [gPs, Bool.and_eq_true] at h
    rcases List.mem_cons.mp hv with rfl | q
    · exact h.1
    · exact ih h.2 q
theorem hPs_mem {xs : List PV} {n : Nat} (h : hPs xs ≤ n) {v : PV} (hv : v ∈ xs) : hP v ≤ n := by
  induction xs with
  | nil => cases hv
  | cons x xs ih =>
    simp only [hPs] at h
    rcases List.mem_cons.mp hv with rfl | q
    · omega
    · exact ih (by omega) q
theorem gPs_of {xs : List PV} {n : Nat} (h : ∀ v ∈ xs, gP v n = true) : gPs xs n = true := by
  induction xs with
  | nil => rfl
  | cons x xs ih => simp only [gPs, Bool.and_eq_true]; exact ⟨h x (List.mem_cons_self ..), ih fun v hv => h v (List.mem_cons_of_mem _ hv)⟩
theorem hPs_of {xs : List PV} {n : Nat} (h : ∀ v ∈ xs, hP v ≤ n) : hPs xs ≤ n := by
  induction xs with
  | nil => exact Nat.zero_le _
  | cons x xs ih =>
    have h1 := h x (List.mem_cons_self ..)
    have h2 := ih fun v hv => h v (List.mem_cons_of_mem _ hv)
    simp only [hPs]; omega
theorem Gd.tup {xs : List PV} (h : Gd (.tup xs)) : ∀ v ∈ xs, Gd v := fun v hv => by
  obtain ⟨h1, h2⟩ := h
  simp only [gP] at h1
  simp only [hP] at h2
  exact ⟨gPs_mem h1 hv, hPs_mem (by omega) hv⟩
theorem gP_plain {v : PV} {n : Nat} (h : gP v n = true) : plain v = true := by cases v <;> first | rfl | simp [gP] at h
theorem Gd.plain {v : PV} (h : Gd v) : Mn.plain v = true := gP_plain h.1
theorem Gd.lk {v : PV} (h : Gd v) : isLk v = false := plain_lk h.plain
theorem tPs_nil {xs : List PV} : tPs xs = [] ↔ xs = [] := by cases xs <;> simp [tPs]
theorem ne_nilG {xs : List PV} (h : ∀ v ∈ xs, Gd v) : cmpP .NotEq (.lst xs) (.lst []) = some (!xs.isEmpty) := by
  have g : gP (.lst xs) 6 = true := by simp only [gP]; exact gPs_of fun v hv => gP_up (h v hv).1 (by omega)
  have d : hP (.lst xs) ≤ 60 := by
    have := hPs_of (n := 40) fun v hv => (h v hv).2
    simp only [hP]; omega
  simp only [cmpP, eq_p g d (w := .lst []) rfl (by decide) (.inl rfl), Option.map_some, tP]
  cases xs with
  | nil => rfl
  | cons x xs => simp [tPs, PyData.eqv, PyData.eqvAll]
/-- the repr of a plain thing -/
theorem repr_g {v : PV} (h : Gd v) (z : zP v ≤ 1000000) : bltP .repr [v] = some (.val (.str (tP v).shown)) := repr_p (gP_up h.1 (by omega)) (by have := h.2; omega) z
theorem num_ok {i : Int} (h0 : 0 ≤ i) (h1 : i < 1000) : PyData.strOk (Str.ofString (toString i)) = true ∧ (Str.ofString (toString i)).length ≤ 4 := by
  obtain ⟨m, rfl⟩ := Int.eq_ofNat_of_zero_le h0
  refine ⟨?_, ?_⟩
  · unfold PyData.strOk
    rw [← Array.all_toList, PySem.W.KIN.signs_num]
    rw [List.all_eq_true]
    intro c hc
    obtain ⟨x, _, rfl⟩ := List.mem_map.mp hc
    have := x.valid
    simp only [decide_eq_true_eq]
    show x.val.toNat < 0x110000
    rcases this with z | z <;> omega
  · have := int_text_length_le10 (a := (m : Int)) (k := 3) (by decide) (by omega)
    rw [ofString_length]
    exact this
theorem gPs_app {n : Nat} : ∀ {a b : List PV}, gPs (a ++ b) n = (gPs a n && gPs b n)
  | [], b => by simp [gPs]
  | x :: a, b => by simp [gPs, gPs_app (a := a), Bool.and_assoc]
theorem hPs_app : ∀ {a b : List PV}, hPs (a ++ b) = max (hPs a) (hPs b)
  | [], b => by simp [hPs]
  | x :: a, b => by simp only [List.cons_append, hPs, hPs_app (a := a)]; omega
theorem zPs_app : ∀ {a b : List PV}, zPs (a ++ b) = zPs a + zPs b
  | [], b => by simp [zPs]
  | x :: a, b => by simp only [List.cons_append, zPs, zPs_app (a := a)]; omega
theorem zPs_rev : ∀ {a : List PV}, zPs a.reverse = zPs a
  | [] => rfl
  | x :: a => by simp only [List.reverse_cons, zPs_app, zPs_rev (a := a), zPs]; omega
theorem zPs_split {a : List PV} {k : Nat} : zPs (a.take k) + zPs (a.drop k) = zPs a := by rw [← zPs_app, List.take_append_drop]
theorem gPs_sub {n : Nat} {a b : List PV} (h : gPs a n = true) (s : ∀ v ∈ b, v ∈ a) : gPs b n = true := gPs_of fun v hv => gPs_mem h (s v hv)
theorem hPs_sub {n : Nat} {a b : List PV} (h : hPs a ≤ n) (s : ∀ v ∈ b, v ∈ a) : hPs b ≤ n := hPs_of fun v hv => hPs_mem h (s v hv)
theorem len_zPs : ∀ {a : List PV}, a.length ≤ zPs a
  | [] => Nat.le_refl _
  | x :: a => by have := len_zPs (a := a); simp only [List.length_cons, zPs]; omega
mutual
/-- tuples of tuples of small numbers -/
def sm : PV → Bool
  | .int i => decide (0 ≤ i) && decide (i < 1000)
  | .tup xs => sms xs
  | _ => false
def sms : List PV → Bool
  | [] => true
  | x :: xs => sm x && sms xs
end
theorem sms_mem {xs : List PV} (h : sms xs = true) {v : PV} (hv : v ∈ xs) : sm v = true := by
  induction xs with
  | nil => cases hv
  | cons x xs ih =>
    simp only [sms, Bool.and_eq_true] at h
    rcases List.mem_cons.mp hv with rfl | q
    · exact h.1
    · exact ih h.2 q
theorem sms_of {xs : List PV} (h : ∀ v ∈ xs, sm v = true) : sms xs = true := by
  induction xs with
  | nil => rfl
  | cons x xs ih => simp only [sms, Bool.and_eq_true]; exact ⟨h x (List.mem_cons_self ..), ih fun v hv => h v (List.mem_cons_of_mem _ hv)⟩
mutual
theorem sm_gP : ∀ {v : PV}, sm v = true → gP v 0 = true
  | .int i, h => by simp only [sm, Bool.and_eq_true, decide_eq_true_eq] at h; simp only [gP, decide_eq_true_eq]; omega
  | .tup xs, h => by simp only [sm] at h; simp only [gP]; exact sms_gP h
  | .non, h => by simp [sm] at h
  | .bl _, h => by simp [sm] at h
  | .str _, h => by simp [sm] at h
  | .lst _, h => by simp [sm] at h
  | .fro _, h => by simp [sm] at h
  | .dct _, h => by simp [sm] at h
  | .lck, h => by simp [sm] at h
theorem sms_gP : ∀ {v : List PV}, sms v = true → gPs v 0 = true
  | [], _ => rfl
  | x :: xs, h => by simp only [sms, Bool.and_eq_true] at h; simp only [gPs, Bool.and_eq_true]; exact ⟨sm_gP h.1, sms_gP h.2⟩
end
end Mn

set_option autoImplicit false
/-! PWB: the evaluator's rules in few words. -/
namespace Mn
def pw0 := And.intro @w_srtS (And.intro @w_lenS (And.intro @w_callN (And.intro @w_isX (And.intro @w_fldX (And.intro @w_callE (And.intro @w_retC (And.intro @w_raise (And.intro @w_asgX (And.intro @w_exprX (And.intro @w_retX (And.intro @w_tryC (And.intro @xo_n (And.intro @xo_s (And.intro @tx_n (And.intro @tx_s (And.intro @dec_own (And.intro @dec_non (And.intro @dec_bl (And.intro @dec_int (And.intro @dec_str (And.intro @dec_lst (And.intro @dec_tup0 (And.intro @dec_tupI (And.intro @dec_tupB (And.intro @dec_tupN (And.intro @dec_tupT (And.intro @dec_tupL (And.intro @txW_val (And.intro @txW_drop (And.intro @txW_isT (And.intro @txW_ifT (And.intro @txW_ifF (And.intro @with_cl (And.intro @with_call (And.intro @with_sig (And.intro @with_gl (And.intro @with_E (And.intro @at_with (@okK2_no)))))))))))))))))))))))))))))))))))))))
def pw1 := And.intro @w_int (And.intro @w_bl (And.intro @w_str (And.intro @w_non (And.intro @w_var (And.intro @w_glb (And.intro @w_tup (And.intro @w_lst (And.intro @w_bin (And.intro @w_neg (And.intro @w_not (And.intro @w_cmp (And.intro @w_chain (And.intro @w_and (And.intro @w_or (And.intro @w_ife (And.intro @w_ix (And.intro @w_sl (And.intro @w_slL (And.intro @w_slH (And.intro @w_slB (And.intro @w_rev (And.intro @w_call (And.intro @w_blt (And.intro @w_meth (And.intro @w_isi (And.intro @w_dsp (And.intro @w_rngL (And.intro @w_rngT (And.intro @w_lc (And.intro @w_es0 (And.intro @w_es1 (And.intro @w_ts0 (And.intro @w_ts1 (And.intro @w_asg (And.intro @w_asgSub (And.intro @w_expr (And.intro @w_ret (And.intro @w_retN (@w_ite)))))))))))))))))))))))))))))))))))))))
def pw2 := And.intro @w_for (And.intro @w_whl (And.intro @w_pass (And.intro @w_brk (And.intro @w_cont (And.intro @w_ss0 (And.intro @w_ss1 (And.intro @th_nx (And.intro @th_ret (And.intro @th_brk (And.intro @th_cont (And.intro @br_t (And.intro @br_f (And.intro @rd_s (And.intro @rd_non (And.intro @rd_bl (And.intro @rd_int (And.intro @rd_str (And.intro @rd_tup (And.intro @rd_lst (And.intro @rd_fro (And.intro @rd_dct (And.intro @ld_non (And.intro @ld_bl (And.intro @ld_int (And.intro @ld_str (And.intro @ld_tup (And.intro @ld_lst (And.intro @ld_fro (And.intro @ld_dct (And.intro @lk_non (And.intro @lk_bl (And.intro @lk_int (And.intro @lk_str (And.intro @lk_tup (And.intro @lk_lst (And.intro @lk_fro (And.intro @lk_dct (And.intro @finQ_ret (@finQ_nx)))))))))))))))))))))))))))))))))))))))
def pw3 := And.intro @tr_bl (And.intro @tr_int (And.intro @tr_non (And.intro @tr_tup (And.intro @tr_lst (And.intro @bp_add (And.intro @bp_sub (And.intro @cp_eqI (And.intro @cp_neI (And.intro @cp_eqS (And.intro @cp_neS (And.intro @cp_lt (And.intro @cp_le (And.intro @cp_gt (And.intro @cp_ge (And.intro @cp_in (And.intro @cp_notin (And.intro @cp_isN (And.intro @cp_isnN (And.intro @mx_int (And.intro @mn_int (And.intro @ln_tup (And.intro @ln_lst (And.intro @ln_fro (And.intro @tu_lst (And.intro @tu_tup (And.intro @li_tup (And.intro @li_lst (And.intro @in_bl (And.intro @in_int (And.intro @ix_tup' (And.intro @ix_lst' (And.intro @kd_str' (And.intro @kd_tup' (And.intro @kd_lst' (And.intro @kd_dct' (And.intro @lc_some (And.intro @lc_t (And.intro @lc_f (@fs_some)))))))))))))))))))))))))))))))))))))))
def pw4 := And.intro @rng_len (And.intro @it_tup (And.intro @it_lst (And.intro @is_tup (And.intro @is_int (And.intro @is_bl (And.intro @is_lst (And.intro @is_str (And.intro @is_non (@rv_tup)))))))))
end Mn

set_option autoImplicit false
/-! Wp: code gone through by rules, draws and branches by themselves. -/
namespace Mn
open PySem L2
def cb (r : CR) (pk : List PK) (os : List Opd) (σ : PS) : Q Opd := match r with
  | .ok o ios => .ok o (backP pk os ios σ)
  | .exc c fs ios => .exc c fs (backP pk os ios σ)
  | .bad => .bad
theorem w_cp {X : CQ} {f : Str} {os : List Opd} {σ : PS} : callP X f os σ = ob (X.sig f) fun p => ob (argsP X.cl p.1 os σ) fun q => cb (X.call f q.1) p.1 os q.2 := by
  unfold callP
  cases X.sig f with
  | none => rfl
  | some p =>
    obtain ⟨pk, fr⟩ := p
    simp only [ob]
    cases argsP X.cl pk os σ with
    | none => rfl
    | some q => obtain ⟨vs, σ1⟩ := q; dsimp only; unfold cb; cases X.call f vs <;> rfl
theorem cb_ok {o : Opd} {ios : List PV} {pk : List PK} {os : List Opd} {σ : PS} : cb (.ok o ios) pk os σ = .ok o (backP pk os ios σ) := rfl
/-- draws from a feed -/
structure DrawN (f : Str) (F : Nat → PV → Prop) (ℓ : Nat) (X : CQ) : Prop where
  sig : X.sig f = some ([.io, .pl], false)
  lst : ∀ T v, F T v → ∃ L, v = .lst L
  call : ∀ T v (n : Int), F T v → T < ℓ → 1 ≤ n → n < 1073741824 → ∃ (r : Int) (v' : PV), X.call f [v, .int n] = .ok (.val (.int r)) [v', .int n] ∧ 0 ≤ r ∧ r < n ∧ F (T + 1) v'
abbrev DrawF := DrawN "_law_draw"
/-- draws from a feed that is a dict -/
structure DrawD (f : Str) (F : PV → Prop) (X : CQ) : Prop where
  sig : X.sig f = some ([.io, .pl], false)
  dct : ∀ v, F v → ∃ kvs, v = .dct kvs
  call : ∀ v (n : Int), F v → 1 ≤ n → n < 1073741824 → ∃ (r : Int) (v' : PV), X.call f [v, .int n] = .ok (.val (.int r)) [v', .int n] ∧ 0 ≤ r ∧ r < n ∧ F v'
section
variable {α β : Type} {X : CQ} {P : α → PS → Prop} {σ : PS} {pk : List PK} {os : List Opd} {K : Opd → PS → Q α}
theorem st_draw {f : Str} {F : Nat → PV → Prop} {ℓ T : Nat} {u : PV} {n : Int} (D : DrawN f F ℓ X) (hu : F T u) (hT : T < ℓ) (h1 : 1 ≤ n) (h2 : n < 1073741824)
    (k : ∀ (r : Nat) (L : List PV), (r : Int) < n → F (T + 1) (.lst L) → Evq (K (.val (.int (r : Int))) (backP pk os [.lst L, .int n] σ)) P) : Evq (bnd (cb (X.call f [u, .int n]) pk os σ) K) P := by
  obtain ⟨r, v', e, r0, r1, hv⟩ := D.call T u n hu hT h1 h2
  obtain ⟨L, rfl⟩ := D.lst _ _ hv
  obtain ⟨r, rfl⟩ : ∃ k : Nat, r = (k : Int) := ⟨r.toNat, by omega⟩
  rw [e, cb_ok, qb_ok]
  exact k r L r1 hv
theorem st_drawD {f : Str} {F : PV → Prop} {u : PV} {n : Int} (D : DrawD f F X) (hu : F u) (h1 : 1 ≤ n) (h2 : n < 1073741824)
    (k : ∀ (r : Nat) (L : List (Key × PV)), (r : Int) < n → F (.dct L) → Evq (K (.val (.int (r : Int))) (backP pk os [.dct L, .int n] σ)) P) : Evq (bnd (cb (X.call f [u, .int n]) pk os σ) K) P := by
  obtain ⟨r, v', e, r0, r1, hv⟩ := D.call u n hu h1 h2
  obtain ⟨L, rfl⟩ := D.dct _ hv
  obtain ⟨r, rfl⟩ : ∃ k : Nat, r = (k : Int) := ⟨r.toNat, by omega⟩
  rw [e, cb_ok, qb_ok]
  exact k r L r1 hv
theorem st_call {r : CR} {S : Opd → List PV → Prop} (h : Evo r S) (k : ∀ o ios, S o ios → Evq (K o (backP pk os ios σ)) P) : Evq (bnd (cb r pk os σ) K) P := by
  obtain ⟨o, ios, e, s⟩ := h
  rw [e, cb_ok, qb_ok]
  exact k o ios s
theorem st_br {b : Bool} {A B : Q α} (h1 : b = true → Evq A P) (h2 : b = false → Evq B P) : Evq (br (some b) A B) P := by
  cases b
  · exact h2 rfl
  · exact h1 rfl
theorem st_brb {γ : Type} {b : Bool} {A B : Q γ} {K : γ → PS → Q α} (h1 : b = true → Evq (bnd A K) P) (h2 : b = false → Evq (bnd B K) P) : Evq (bnd (br (some b) A B) K) P := by
  cases b
  · exact h2 rfl
  · exact h1 rfl
theorem st_ob {o : Option β} {f : β → Q α} (x : β) (h : o = some x) (k : Evq (f x) P) : Evq (ob o f) P := by rw [h]; exact k
theorem st_at {l : List PV} {r : Nat} {f : PV → Q α} (h : (r : Int) < l.length) (k : ∀ x ∈ l, Evq (f x) P) : Evq (ob (atI l (r : Int)) f) P := by
  have h : r < l.length := by omega
  rw [at_nat, List.getElem?_eq_getElem h]
  exact k _ (List.getElem_mem h)
theorem st_atb {γ : Type} {l : List PV} {r : Nat} {f : PV → Q γ} {K : γ → PS → Q α} (h : (r : Int) < l.length) (k : ∀ x ∈ l, Evq (bnd (f x) K) P) : Evq (bnd (ob (atI l (r : Int)) f) K) P := by
  have h : r < l.length := by omega
  rw [at_nat, List.getElem?_eq_getElem h]
  exact k _ (List.getElem_mem h)
theorem st_obb {γ δ : Type} {o : Option δ} {f : δ → Q γ} {K : γ → PS → Q α} (x : δ) (h : o = some x) (k : Evq (bnd (f x) K) P) : Evq (bnd (ob o f) K) P := by rw [h]; exact k
theorem st_ret {pk : List PK} {fr : Bool} {vs : List PV} {P : Opd → List PV → Prop} {o : Opd} (h : Evo (exitQ pk fr vs o σ) P) : Evq (.ok (.ret o) σ) (RP pk fr vs P) := .ok (.ret h)
theorem st_nx {pk : List PK} {fr : Bool} {vs : List PV} {P : Opd → List PV → Prop} (h : Evo (exitQ pk fr vs (.val .non) σ) P) : Evq (.ok .nx σ) (RP pk fr vs P) := .ok (.nx h)
theorem bp_modN {x : Int} {y : Int} (h : 0 < y) : binP .Mod (.int x) (.int y) = some (.val (.int (x % y))) := bp_mod h
theorem it_rngI {z : Int} (h0 : 0 ≤ z) (h : z ≤ 1000000) : itP .rng1 (.int z) .non = some (rngIP 0 z.toNat) := by
  obtain ⟨k, rfl⟩ : ∃ k : Nat, z = (k : Int) := ⟨z.toNat, by omega⟩
  exact it_rng' (by omega)
end
theorem tupTup : decide (Ty.tuple = Ty.tuple) = true := rfl
theorem tupInt : decide (Ty.tuple = Ty.int) = false := rfl
theorem tupBool : decide (Ty.tuple = Ty.bool) = false := rfl
theorem tupStr : decide (Ty.tuple = Ty.str) = false := rfl
theorem tupList : decide (Ty.tuple = Ty.list) = false := rfl
theorem intTup : decide (Ty.int = Ty.tuple) = false := rfl
theorem intInt : decide (Ty.int = Ty.int) = true := rfl
theorem intBool : decide (Ty.int = Ty.bool) = false := rfl
theorem intStr : decide (Ty.int = Ty.str) = false := rfl
theorem intList : decide (Ty.int = Ty.list) = false := rfl
theorem boolTup : decide (Ty.bool = Ty.tuple) = false := rfl
theorem boolInt : decide (Ty.bool = Ty.int) = false := rfl
theorem boolBool : decide (Ty.bool = Ty.bool) = true := rfl
theorem boolStr : decide (Ty.bool = Ty.str) = false := rfl
theorem boolList : decide (Ty.bool = Ty.list) = false := rfl
theorem strTup : decide (Ty.str = Ty.tuple) = false := rfl
theorem strInt : decide (Ty.str = Ty.int) = false := rfl
theorem strBool : decide (Ty.str = Ty.bool) = false := rfl
theorem strStr : decide (Ty.str = Ty.str) = true := rfl
theorem strList : decide (Ty.str = Ty.list) = false := rfl
theorem listTup : decide (Ty.list = Ty.tuple) = false := rfl
theorem listInt : decide (Ty.list = Ty.int) = false := rfl
theorem listBool : decide (Ty.list = Ty.bool) = false := rfl
theorem listStr : decide (Ty.list = Ty.str) = false := rfl
theorem listList : decide (Ty.list = Ty.list) = true := rfl
def Ty_dec := And.intro tupTup (And.intro tupInt (And.intro tupBool (And.intro tupStr (And.intro tupList (And.intro intTup (And.intro intInt (And.intro intBool (And.intro intStr (And.intro intList (And.intro boolTup (And.intro boolInt (And.intro boolBool (And.intro boolStr (And.intro boolList (And.intro strTup (And.intro strInt (And.intro strBool (And.intro strStr (And.intro strList (And.intro listTup (And.intro listInt (And.intro listBool (And.intro listStr listList)))))))))))))))))))))))
theorem bp_addTN {xs ys : List PV} (h : xs.length + ys.length ≤ 1000000) : binP .Add (.tup xs) (.tup ys) = some (.val (.tup (xs ++ ys))) := bp_addT h
theorem bp_addLN {xs ys : List PV} (h : xs.length + ys.length ≤ 1000000) : binP .Add (.lst xs) (.lst ys) = some (.own (.lst (xs ++ ys))) := bp_addL h
theorem ob_bl {α : Type} {b : Bool} {f : Bool → Q α} : ob (some b) f = f b := rfl
theorem sp_l1 {xs : List PV} {k : Nat} : slP (.tup xs) (some ((k : Int) + 1)) none = some (.val (.tup (xs.drop (k + 1)))) := sp_l (k := k + 1)
theorem sp_h1 {xs : List PV} {k : Nat} : slP (.tup xs) none (some ((k : Int) + 1)) = some (.val (.tup (xs.take (k + 1)))) := sp_h (k := k + 1)
def w5 := And.intro @rd_any (And.intro @sp_h (And.intro @sp_l (And.intro @sp_l1 @sp_h1)))
/-- a call's equation by what is so of it -/
theorem Evo.ex {r : CR} {S : Opd → List PV → Prop} (h : Evo r S) : ∃ o ios, r = .ok o ios ∧ S o ios := h
end Mn

set_option hygiene false
local macro_rules
  | `(tactic| dsimp?! [$a,*]) => `(tactic| simp -dsimp only [pw0, pw1, pw2, pw3, pw4, dec_ints, okO, lcSrc, subO, ob_some, qb_ok, qb_assoc, lookO, looks, on1, on2, intO, force, forces, forceQ, asgF, asgO, asgP, asgPs, Opd.v, lk_lck, clOf, exitQ, outsP, callP, argsP, backP, List.getElem?_cons_zero, List.getElem?_cons_succ, List.set_cons_zero, List.set_cons_succ, Option.getD_some, Option.map_some, Option.bind_some, reduceCtorEq, ↓reduceIte, if_true, if_false, noRef, noRefs, emb, embs, isNon, at_0, at_1, at_2, at_3, canP, Bool.not_true, Bool.not_false, Bool.false_eq_true, Bool.true_and, Bool.and_true, Bool.and_self, decide_true, decide_false, methO, Me.reads, or_true, true_or, or_false, false_or, and_true, true_and, and_self, ne_eq, not_false_eq_true, not_true_eq_false, eq_self, srcP, lockO, unlockO, restP, Option.join_some, wipeP, List.length_cons, List.length_nil, Nat.reduceAdd, List.map_cons, List.map_nil, List.cons_append, List.nil_append, List.replicate, Nat.reduceSub, beq_self_eq_true, lcOk, MT.slots, MT.slotss, List.all_cons, List.all_nil, List.contains_cons, List.contains_nil, Bool.true_or, Bool.or_true, Bool.or_false, Bool.false_or, Nat.reduceBEq, List.length_map, $a,*])
local macro_rules
  | `(tactic| simp_all?! [$a,*]) => `(tactic| simp -dsimp only [asgP, asgPs, clOf, fs_some, lc_some, List.getElem?_cons_zero, List.getElem?_cons_succ, List.set_cons_zero, List.set_cons_succ, Option.getD_some, Option.bind_some, Option.map_some, reduceCtorEq, ↓reduceIte, List.length_cons, List.length_nil, ld_int, ld_tup, ld_bl, ld_str, ld_non, isLD, $a,*])
local macro_rules
  | `(tactic| dsimp! [$a,*]) => `(tactic| simp -dsimp (disch := first | assumption | (with_reducible rfl) | omega | (simp only [List.length_cons, List.length_nil, List.length_append, List.length_map, List.length_reverse, List.length_dropLast, List.length_take, List.length_drop]; omega)) only [pw0, pw1, pw2, pw3, pw4, dec_ints, okO, lcSrc, subO, ob_some, qb_ok, qb_assoc, lookO, looks, on1, on2, intO, force, forces, forceQ, asgF, asgO, asgP, asgPs, Opd.v, lk_lck, clOf, exitQ, outsP, w_cp, cb_ok, argsP, backP, List.getElem?_cons_zero, List.getElem?_cons_succ, List.set_cons_zero, List.set_cons_succ, Option.getD_some, Option.map_some, Option.bind_some, reduceCtorEq, ↓reduceIte, if_true, if_false, noRef, noRefs, emb, embs, isNon, at_0, at_1, at_2, at_3, canP, Bool.not_true, Bool.not_false, Bool.false_eq_true, Bool.true_and, Bool.and_true, Bool.and_self, decide_true, decide_false, methO, Me.reads, or_true, true_or, or_false, false_or, and_true, true_and, and_self, ne_eq, not_false_eq_true, not_true_eq_false, eq_self, srcP, lockO, unlockO, restP, Option.join_some, wipeP, List.length_cons, List.length_nil, Nat.reduceAdd, List.map_cons, List.map_nil, List.cons_append, List.nil_append, List.replicate, Nat.reduceSub, beq_self_eq_true, lcOk, MT.slots, MT.slotss, List.all_cons, List.all_nil, List.contains_cons, List.contains_nil, Bool.true_or, Bool.or_true, Bool.or_false, Bool.false_or, Nat.reduceBEq, List.length_map, w5, Ty_dec, bp_modN, bp_div, it_rng', it_rngI, lm_le, app_at, bp_addTN, bp_addLN, Int.toNat_natCast, $a,*])
local macro_rules
  | `(tactic| simp_all! [$a,*]) => `(tactic| ((try dsimp! [$a,*]); (repeat' ((first
    | (refine st_draw (by assumption) (by assumption) (by omega) (by omega) (by omega) ?_; intro r L hr hL)
    | (refine st_drawD (by assumption) (by assumption) (by omega) (by omega) ?_; intro r L hr hL)
    | (refine st_br ?_ ?_ <;> intro hb <;> (try simp only [decide_eq_true_eq, decide_eq_false_iff_not, beq_iff_eq, beq_eq_false_iff_ne, bne_iff_ne, Bool.not_eq_true', Bool.not_eq_false', Bool.not_eq_true, Bool.not_eq_false, ne_eq, Bool.and_eq_true, Bool.or_eq_true, Bool.and_eq_false_iff, Bool.or_eq_false_iff, Int.not_lt, Int.not_le, Nat.not_lt, Nat.not_le] at hb) <;> (try (exfalso; omega)))
    | (refine st_brb ?_ ?_ <;> intro hb <;> (try simp only [decide_eq_true_eq, decide_eq_false_iff_not, beq_iff_eq, beq_eq_false_iff_ne, bne_iff_ne, Bool.not_eq_true', Bool.not_eq_false', Bool.not_eq_true, Bool.not_eq_false, ne_eq, Bool.and_eq_true, Bool.or_eq_true, Bool.and_eq_false_iff, Bool.or_eq_false_iff, Int.not_lt, Int.not_le, Nat.not_lt, Nat.not_le] at hb) <;> (try (exfalso; omega)))
    | (refine st_ret ?_)
    | (refine st_nx ?_)
    | (refine Evo.ok ?_)) <;> (try dsimp! [$a,*])))))
set_option hygiene true

set_option autoImplicit false
set_option maxHeartbeats 1000000
/-! GA: what the laws k01 to k18 share. -/
namespace Mn
namespace GA
open PySem L2
/-- 0 _law_script -/
def b_x_feed : List MS := [
  .ret (.lst [.slH (.var 0) (.c (.int 63)), .c (.int 0), .c (.int 0), .c (.int 0)])]
def p_x_feed : FP := ⟨1, 1, b_x_feed, [.sh], [.pl], true⟩
/-- 0 _law_feed_here, 1 _law_many, 2 _law_found, 3 _law_cell, 4 _law_mixed -/
def b_x_draw : List MS := [
  .asgSub (.var 0) (.c (.int 3)) (.bin .Add (.ix (.var 0) (.c (.int 3))) (.c (.int 1))),
  .ite (.cmp .Gt (.ix (.var 0) (.c (.int 2))) (.c (.int 0))) [
    .asg (.nm 2) (.bin .Mod (.ix (.var 0) (.c (.int 2))) (.var 1)),
    .asgSub (.var 0) (.c (.int 2)) (.bin .FloorDiv (.ix (.var 0) (.c (.int 2))) (.var 1)),
    .ret (.var 2)] [],
  .asg (.nm 3) (.c (.int 7)),
  .ite (.cmp .NotEq (.ix (.var 0) (.c (.int 0))) (.lst [])) [
    .asg (.nm 3) (.ix (.ix (.var 0) (.c (.int 0))) (.bin .Mod (.ix (.var 0) (.c (.int 1))) (.blt .len [.ix (.var 0) (.c (.int 0))])))] [],
  .asgSub (.var 0) (.c (.int 1)) (.bin .Add (.ix (.var 0) (.c (.int 1))) (.c (.int 1))),
  .ite (.and_ (.cmp .GtE (.var 3) (.bin .Pow (.c (.int 10)) (.c (.int 18)))) (.cmp .LtE (.ix (.var 0) (.c (.int 1))) (.blt .len [.ix (.var 0) (.c (.int 0))]))) [
    .asgSub (.var 0) (.c (.int 2)) (.bin .FloorDiv (.var 3) (.var 1)),
    .ret (.bin .Mod (.var 3) (.var 1))] [],
  .asg (.nm 4) (.bin .Mod (.bin .Mult (.bin .Add (.bin .Mod (.var 3) (.c (.int 1000000007))) (.bin .Mult (.c (.int 40503)) (.ix (.var 0) (.c (.int 3))))) (.c (.int 48271))) (.c (.int 2147483629))),
  .asg (.nm 4) (.bin .Mod (.bin .Mult (.bin .Add (.bin .FloorDiv (.var 4) (.c (.int 17))) (.bin .Mult (.bin .Mult (.c (.int 977)) (.ix (.var 0) (.c (.int 3)))) (.ix (.var 0) (.c (.int 3))))) (.c (.int 69621))) (.c (.int 2147483587))),
  .ret (.bin .Mod (.bin .FloorDiv (.var 4) (.c (.int 64))) (.var 1))]
def p_x_draw : FP := ⟨2, 5, b_x_draw, [.io, .sh, .sh, .sh, .sh], [.io, .pl], false⟩
/-- 0 _law_feed_here, 1 _law_signed, 2 _law_price_here -/
def b_x_price : List MS := [
  .asg (.nm 2) (.ix (.lst [.c (.int 1), .c (.int 2), .c (.int 3), .c (.int 0), .c (.int 5), .c (.int 1), .c (.int 99), .call "_law_draw" [.var 0, .c (.int 100)]]) (.call "_law_draw" [.var 0, .c (.int 8)])),
  .ret (.ife (.and_ (.var 1) (.cmp .Eq (.call "_law_draw" [.var 0, .c (.int 3)]) (.c (.int 0)))) (.neg (.var 2)) (.var 2))]
def p_x_price : FP := ⟨2, 3, b_x_price, [.io, .sh, .sh], [.io, .pl], false⟩
/-- 0 _law_feed_here, 1 _law_most, 2 _law_ties, 3 _law_signed, 4 _law_many, 5 _law_way, 6 _law_found, 7 _law_k, 8 _law_a, 9 _law_tie -/
def b_x_web : List MS := [
  .asg (.nm 4) (.bin .Add (.c (.int 1)) (.call "_law_draw" [.var 0, .var 1])),
  .asg (.nm 5) (.call "_law_draw" [.var 0, .c (.int 4)]),
  .asg (.nm 6) (.lst []),
  .ite (.cmp .Lt (.var 5) (.c (.int 2))) [
    .asg (.nm 6) (.lc (.tup [.var 7, .bin .Add (.var 7) (.c (.int 1)), .call "_law_price" [.var 0, .var 3]]) (.nm 7) .rng1 (.bin .Sub (.var 4) (.c (.int 1))) (.c .non) [] [7])] [],
  .ite (.and_ (.cmp .Eq (.var 5) (.c (.int 0))) (.cmp .Gt (.var 4) (.c (.int 1)))) [
    .expr (.meth .append (.var 6) [.tup [.c (.int 0), .bin .Sub (.var 4) (.c (.int 1)), .call "_law_price" [.var 0, .var 3]]])] [],
  .for_ (.nm 7) .rng1 (.bin .Mult (.call "_law_draw" [.var 0, .bin .Add (.var 2) (.c (.int 1))]) (.blt .int [.cmp .Gt (.var 4) (.c (.int 1))])) (.c .non) [
    .asg (.nm 8) (.call "_law_draw" [.var 0, .bin .Sub (.var 4) (.c (.int 1))]),
    .asg (.nm 9) (.tup [.var 8, .bin .Add (.bin .Add (.var 8) (.c (.int 1))) (.call "_law_draw" [.var 0, .bin .Sub (.bin .Sub (.var 4) (.c (.int 1))) (.var 8)]), .call "_law_price" [.var 0, .var 3]]),
    .ite (.and_ (.cmp .NotEq (.var 6) (.lst [])) (.cmp .Eq (.call "_law_draw" [.var 0, .c (.int 5)]) (.c (.int 0)))) [
      .asg (.nm 9) (.ix (.var 6) (.call "_law_draw" [.var 0, .blt .len [.var 6]]))] [],
    .expr (.meth .insert (.var 6) [.call "_law_draw" [.var 0, .bin .Add (.blt .len [.var 6]) (.c (.int 1))], .var 9])],
  .ret (.tup [.var 4, .blt .tuple [.slH (.var 6) (.var 2)]])]
def p_x_web : FP := ⟨4, 10, b_x_web, [.io, .sh, .sh, .sh, .sh, .sh, .ow, .sh, .sh, .sh], [.io, .pl, .pl, .pl], false⟩
/-- 0 _law_feed_here, 1 _law_ties, 2 _law_many, 3 _law_left, 4 _law_names, 5 _law_k, 6 _law_way, 7 _law_pairs, 8 _law_a, 9 _law_pair -/
def b_x_wide : List MS := [
  .asg (.nm 2) (.ix (.lst [.c (.int 60), .c (.int 10), .c (.int 11), .bin .Add (.c (.int 10)) (.call "_law_draw" [.var 0, .c (.int 51)])]) (.call "_law_draw" [.var 0, .c (.int 4)])),
  .asg (.nm 3) (.rngL (.c (.int 0)) (.var 2)),
  .asg (.nm 4) (.lc (.meth .pop (.var 3) [.call "_law_draw" [.var 0, .blt .len [.var 3]]]) (.nm 5) .rng1 (.var 2) (.c .non) [] [5]),
  .asg (.nm 6) (.call "_law_draw" [.var 0, .c (.int 3)]),
  .asg (.nm 7) (.lc (.tup [.ix (.var 4) (.bin .Sub (.var 5) (.c (.int 1))), .ix (.var 4) (.var 5)]) (.nm 5) .rng2 (.var 6) (.var 2) [] [5]),
  .ite (.cmp .Eq (.var 6) (.c (.int 2))) [
    .asg (.nm 7) (.lst []),
    .for_ (.nm 5) .rng1 (.call "_law_draw" [.var 0, .bin .Add (.var 1) (.c (.int 1))]) (.c .non) [
      .asg (.nm 8) (.call "_law_draw" [.var 0, .var 2]),
      .expr (.meth .append (.var 7) [.tup [.var 8, .bin .Mod (.bin .Add (.bin .Add (.var 8) (.c (.int 1))) (.call "_law_draw" [.var 0, .bin .Sub (.var 2) (.c (.int 1))])) (.var 2)]])]] [],
  .ret (.tup [.var 2, .blt .tuple [.lc (.tup [.blt .min [.var 9], .blt .max [.var 9], .call "_law_price" [.var 0, .c (.bl true)]]) (.nm 9) .val (.var 7) (.c .non) [] [9]]])]
def p_x_wide : FP := ⟨2, 10, b_x_wide, [.io, .sh, .sh, .ow, .sh, .sh, .sh, .ow, .sh, .sh], [.io, .pl], false⟩
/-- 0 _law_feed_here, 1 _law_many, 2 _law_way, 3 _law_k -/
def b_x_some : List MS := [
  .asg (.nm 2) (.call "_law_draw" [.var 0, .c (.int 6)]),
  .ite (.cmp .Lt (.var 2) (.c (.int 2))) [
    .ret (.rngT (.c (.int 0)) (.bin .Mult (.var 1) (.var 2)))] [],
  .ret (.blt .tuple [.lc (.var 3) (.nm 3) .rng1 (.var 1) (.c .non) [.cmp .Eq (.call "_law_draw" [.var 0, .var 2]) (.c (.int 0))] [3]])]
def p_x_some : FP := ⟨2, 4, b_x_some, [.io, .sh, .sh, .sh], [.io, .pl], false⟩
/-- 0 _law_thing, 1 _law_least, 2 _law_most -/
def b_x_whole : List MS := [
  .ret (.and_ (.isi (.var 0) .int) (.and_ (.not_ (.isi (.var 0) .bool)) (.chain .LtE .LtE (.var 1) (.var 0) (.var 2))))]
def p_x_whole : FP := ⟨3, 3, b_x_whole, [.sh, .sh, .sh], [.pl, .pl, .pl], false⟩
/-- 0 _law_many, 1 _law_thing, 2 _law_one, 3 _law_k -/
def b_x_rises : List MS := [
  .ite (.or_ (.not_ (.isi (.var 1) .tuple)) (.cmp .In (.c (.bl false)) (.lc (.call "_law_whole" [.var 2, .c (.int 0), .bin .Sub (.var 0) (.c (.int 1))]) (.nm 2) .val (.var 1) (.c .non) [] [2]))) [
    .ret (.c (.bl false))] [],
  .ret (.cmp .Eq (.lc (.var 3) (.nm 3) .rng2 (.c (.int 1)) (.blt .len [.var 1]) [.cmp .GtE (.ix (.var 1) (.bin .Sub (.var 3) (.c (.int 1)))) (.ix (.var 1) (.var 3))] [3]) (.lst []))]
def p_x_rises : FP := ⟨2, 4, b_x_rises, [.sh, .sh, .sh, .sh], [.pl, .pl], false⟩
/-- 0 _law_feed_here, 1 _law_some_here -/
def b_x_odd : List MS := [
  .asg (.nm 1) (.lst [.c .non, .c (.bl true), .c (.bl false), .c (.int 0), .c (.int 1), .c (.int 2), .neg (.c (.int 1)), .c (.int 60), .c (.int 61), .bin .Pow (.c (.int 10)) (.c (.int 39)), .c (.str ""), .c (.str "way"), .c (.str "-"), .tup [], .lst [], .tup [.c (.int 0)], .tup [.c (.int 0), .c (.int 1)], .lst [.c (.int 0), .c (.int 1)]]),
  .ret (.ix (.var 1) (.call "_law_draw" [.var 0, .c (.int 18)]))]
def p_x_odd : FP := ⟨1, 2, b_x_odd, [.io, .sh], [.io], false⟩
/-- 0 _law_feed_here, 1 _law_thing, 2 _law_at, 3 _law_way, 4 _law_some_here -/
def b_x_bent : List MS := [
  .ite (.and_ (.isi (.var 1) .tuple) (.and_ (.cmp .NotEq (.var 1) (.tup [])) (.cmp .Gt (.call "_law_draw" [.var 0, .c (.int 6)]) (.c (.int 0))))) [
    .asg (.nm 2) (.call "_law_draw" [.var 0, .blt .len [.var 1]]),
    .ret (.bin .Add (.bin .Add (.slH (.var 1) (.var 2)) (.tup [.call "_law_bent" [.var 0, .ix (.var 1) (.var 2)]])) (.slL (.var 1) (.bin .Add (.var 2) (.c (.int 1)))))] [],
  .asg (.nm 3) (.call "_law_draw" [.var 0, .c (.int 7)]),
  .ite (.and_ (.isi (.var 1) .tuple) (.cmp .Lt (.var 3) (.c (.int 5)))) [
    .asg (.nm 2) (.call "_law_draw" [.var 0, .bin .Add (.blt .len [.var 1]) (.c (.int 1))]),
    .asg (.nm 4) (.lst [.blt .list [.var 1], .bin .Add (.slH (.var 1) (.var 2)) (.slL (.var 1) (.bin .Add (.var 2) (.c (.int 1)))), .bin .Add (.slH (.var 1) (.bin .Add (.var 2) (.c (.int 1)))) (.slL (.var 1) (.var 2)), .rev (.var 1)]),
    .ret (.ix (.bin .Add (.var 4) (.lst [.bin .Add (.var 1) (.tup [.call "_law_odd" [.var 0]])])) (.var 3))] [],
  .ite (.and_ (.isi (.var 1) .int) (.and_ (.not_ (.isi (.var 1) .bool)) (.cmp .Lt (.var 3) (.c (.int 5))))) [
    .ret (.ix (.lst [.bin .Add (.var 1) (.c (.int 1)), .bin .Sub (.var 1) (.c (.int 1)), .neg (.var 1), .cmp .Eq (.var 1) (.c (.int 1)), .blt .str [.var 1]]) (.var 3))] [],
  .ret (.call "_law_odd" [.var 0])]
def p_x_bent : FP := ⟨2, 5, b_x_bent, [.io, .sh, .sh, .sh, .sh], [.io, .pl], false⟩
theorem fs1 {a b c d x : PV} : setV (.lst [a, b, c, d]) (.int 1) x = some (.lst [a, x, c, d]) := rfl
theorem fs2 {a b c d x : PV} : setV (.lst [a, b, c, d]) (.int 2) x = some (.lst [a, b, x, d]) := rfl
theorem fs3 {a b c d x : PV} : setV (.lst [a, b, c, d]) (.int 3) x = some (.lst [a, b, c, x]) := rfl
def fdA (cells : List Int) (a l t : Int) : PV := .lst [.lst (cells.map .int), .int a, .int l, .int t]
/-- the feed, at most T draws behind -/
def Fd (T : Nat) (v : PV) : Prop := ∃ cells a l t, v = fdA cells a l t ∧ 0 ≤ a ∧ 0 ≤ l ∧ 0 ≤ t ∧ t ≤ T ∧ cells.length ≤ 63
theorem Fd.lk {T : Nat} {v : PV} (h : Fd T v) : isLk v = false := by obtain ⟨_, _, _, _, rfl, _⟩ := h; rfl
theorem Fd.mono {T T' : Nat} {v : PV} (h : Fd T v) (l : T ≤ T') : Fd T' v := by
  obtain ⟨c, a, x, t, e, h1, h2, h3, h4, h5⟩ := h
  exact ⟨c, a, x, t, e, h1, h2, h3, by omega, h5⟩
abbrev line : Nat := 1000000000000
structure Draw (X : CQ) : Prop where
  sig : X.sig "_law_draw" = some ([.io, .pl], false)
  call : ∀ T v (n : Int), Fd T v → T < line → 1 ≤ n → n < 1073741824 → ∃ (r : Int) (v' : PV), X.call "_law_draw" [v, .int n] = .ok (.val (.int r)) [v', .int n] ∧ 0 ≤ r ∧ r < n ∧ Fd (T + 1) v'
theorem eq_ints {xs ys : List Int} : eqP (.lst (xs.map .int)) (.lst (ys.map .int)) = some (decide (xs = ys)) := by
  have t : ∀ zs : List Int, dPs (zs.map .int) 5 = some (zs.map .int) := by
    intro zs
    induction zs with
    | nil => rfl
    | cons z zs ih => simp only [List.map_cons, dPs, dP, ih]
  have l : ∀ zs : List Int, shp (.list (zs.map .int)) = true := by
    intro zs
    have : PyData.canLayAll0 (zs.map .int) = true ∧ PyData.depthAll (zs.map .int) = 0 := by
      induction zs with
      | nil => exact ⟨rfl, rfl⟩
      | cons z zs ih => simp [PyData.canLayAll0, PyData.canLay0, PyData.depthAll, PyData.depth, ih]
    simp [shp, SeqAt.shaped, PyData.canLay0, PyData.depth, this]
  have e : ∀ xs ys : List Int, PyData.eqvAll (xs.map .int) (ys.map .int) = decide (xs = ys) := by
    intro xs
    induction xs with
    | nil => intro ys; cases ys <;> simp [PyData.eqvAll]
    | cons x xs ih => intro ys; cases ys with
      | nil => simp [PyData.eqvAll]
      | cons y ys => simp only [List.map_cons, PyData.eqvAll, PyData.eqv, ih, List.cons.injEq]; rw [Bool.decide_and]; congr 1
  simp only [eqP, strOfP, eqDP, dP, t, Option.map_some, l, Bool.and_self, if_true, PyData.eqv, e]
theorem ne_nil {xs : List Int} : cmpP .NotEq (.lst (xs.map .int)) (.lst []) = some (!decide (xs = [])) := by
  have := eq_ints (xs := xs) (ys := [])
  simp only [List.map_nil] at this
  simp only [cmpP, this, Option.map_some]
theorem mixed {w : PV} {cells : List Int} {a t n c : Int} {T : Nat} (ha : 0 ≤ a) (ht : 0 ≤ t) (htT : t ≤ T + 1) (hT : T < line) (hc : cells.length ≤ 63) (h1 : 1 ≤ n) (h2 : n < 1073741824) {X : CQ} (hx : X.cl = clOf [.io, .sh, .sh, .sh, .sh]) :
    ∃ (r : Int) (v' : PV), finQ [.io, .pl] false [w, .int n] (evTs' X (b_x_draw.drop 4) [some (fdA cells a 0 t), some (.int n), none, some (.int c), none]) = .ok (.val (.int r)) [v', .int n] ∧ 0 ≤ r ∧ r < n ∧ Fd (T + 1) v' := by
  have dn : 0 < n ∧ n < 1073741824 := ⟨by omega, h2⟩
  have ok : ∀ {x y : Int}, 0 ≤ x → 0 ≤ y → Fd (T + 1) (fdA cells x y t) := fun hx hy => ⟨cells, _, _, _, rfl, hx, hy, ht, by omega, hc⟩
  have p10 : binP .Pow (.int 10) (.int 18) = some (.val (.int 1000000000000000000)) := bp_pow (by decide)
  have fin : ∀ {y : Int}, 0 ≤ y % n ∧ y % n < n := fun {y} => ⟨Int.emod_nonneg _ (by omega), Int.emod_lt_of_pos _ (by omega)⟩
  have d64 : (0 : Int) < 64 ∧ (64 : Int) < 1073741824 := by decide
  have d17 : (0 : Int) < 17 ∧ (17 : Int) < 1073741824 := by decide
  have m1 : ∀ x : Int, binP .Mult (.int 40503) (.int x) = some (.val (.int (40503 * x))) := fun x => bp_mul (.inl (by decide))
  have m2 : ∀ x : Int, binP .Mult (.int x) (.int 48271) = some (.val (.int (x * 48271))) := fun x => bp_mul (.inr (by decide))
  have m3 : ∀ x : Int, binP .Mult (.int 977) (.int x) = some (.val (.int (977 * x))) := fun x => bp_mul (.inl (by decide))
  have m5 : ∀ x : Int, binP .Mult (.int x) (.int t) = some (.val (.int (x * t))) := fun x => bp_mul (.inr (by simp only [line] at hT; omega))
  have m4 : ∀ x : Int, binP .Mult (.int x) (.int 69621) = some (.val (.int (x * 69621))) := fun x => bp_mul (.inr (by decide))
  have e1 : ∀ x : Int, binP .Mod (.int x) (.int 1000000007) = some (.val (.int (x % 1000000007))) := fun x => bp_mod (by decide)
  have e2 : ∀ x : Int, binP .Mod (.int x) (.int 2147483629) = some (.val (.int (x % 2147483629))) := fun x => bp_mod (by decide)
  have e3 : ∀ x : Int, binP .Mod (.int x) (.int 2147483587) = some (.val (.int (x % 2147483587))) := fun x => bp_mod (by decide)
  simp only [b_x_draw, List.drop_succ_cons, List.drop_zero, fdA] at ok ⊢
  by_cases c1 : (1000000000000000000 : Int) ≤ c
  · by_cases c2 : a + 1 ≤ (cells.length : Int)
    · dsimp?! [hx, fs1, fs2, c1, c2, p10, bp_div dn, bp_mod dn.1]
      exact ⟨_, _, rfl, fin.1, fin.2, ok (by omega) (Int.ediv_nonneg (by omega) (by omega))⟩
    · dsimp?! [hx, fs1, fs2, p10, c1, c2, m1, m2, m3, m4, m5, e1, e2, e3, bp_div d64, bp_div d17, bp_mod dn.1]
      exact ⟨_, _, rfl, fin.1, fin.2, ok (by omega) (by omega)⟩
  · dsimp?! [hx, fs1, fs2, p10, c1, m1, m2, m3, m4, m5, e1, e2, e3, bp_div d64, bp_div d17, bp_mod dn.1]
    exact ⟨_, _, rfl, fin.1, fin.2, ok (by omega) (by omega)⟩
theorem draw_ok {Γ : Str → Option FP} {gl : Str → Option MV} {W d : Nat} {c : Nat → Cls} (g : Γ "_law_draw" = some p_x_draw) : Draw (cqOf Γ gl W (d + 1) (c)) := by
  refine ⟨sig_eq g, fun T v n hv hT h1 h2 => ?_⟩
  obtain ⟨cells, a, l, t, rfl, ha, hl, ht, htT, hc⟩ := hv
  have dn : 0 < n ∧ n < 1073741824 := ⟨by omega, h2⟩
  dsimp only
  rw [run_eq g rfl rfl]
  generalize hX : cqOf Γ gl W d (clOf [.io, .sh, .sh, .sh, .sh]) = X
  have hx : X.cl = clOf [.io, .sh, .sh, .sh, .sh] := by rw [← hX]
  by_cases c0 : 0 < l
  · simp only [b_x_draw, fdA]
    dsimp?! [hx, fs2, fs3, c0, bp_mod dn.1, bp_div dn]
    exact ⟨_, _, rfl, Int.emod_nonneg _ (by omega), Int.emod_lt_of_pos _ (by omega), ⟨cells, _, _, _, rfl, ha, Int.ediv_nonneg hl (by omega), by omega, by omega, hc⟩⟩
  · obtain rfl : l = 0 := by omega
    have first : ∃ c : Int, evTs' X (b_x_draw.take 4) [some (fdA cells a 0 t), some (.int n), none, none, none] = .ok .nx [some (fdA cells a 0 (t + 1)), some (.int n), none, some (.int c), none] := by
      simp only [b_x_draw, List.take_succ_cons, List.take_zero, fdA]
      by_cases ce : cells = []
      · dsimp?! [hx, fs3, ne_nil, ce, Int.lt_irrefl]
        exact ⟨_, rfl⟩
      · have lp : 0 < cells.length := List.length_pos_iff.mpr ce
        have hm : (0 : Int) < (cells.length : Int) := by omega
        obtain ⟨k, hk, hk2⟩ : ∃ k : Nat, a % (cells.length : Int) = (k : Int) ∧ k < cells.length := by
          have h3 := Int.emod_nonneg a (b := (cells.length : Int)) (by omega)
          have h4 := Int.emod_lt_of_pos a hm
          exact ⟨(a % (cells.length : Int)).toNat, by omega, by omega⟩
        have at1 : atI (cells.map PV.int) (k : Int) = some (.int cells[k]) := by
          rw [at_nat, List.getElem?_map, List.getElem?_eq_getElem hk2]; rfl
        dsimp?! [hx, fs3, ne_nil, ce, Int.lt_irrefl, bp_mod hm, hk, at1]
        exact ⟨_, rfl⟩
    obtain ⟨c, e⟩ := first
    rw [tk 4]
    simp only [List.map_cons, List.map_nil, List.replicate, List.cons_append, List.nil_append, e, qb_ok, th_nx]
    exact mixed ha (by omega) (by omega) hT hc h1 h2 hx
structure Feed (X : CQ) : Prop where
  sig : X.sig "_law_feed" = some ([.pl], true)
  call : ∀ ns : List Int, ∃ v, X.call "_law_feed" [.fro (ns.map .int)] = .ok (.own v) [.fro (ns.map .int)] ∧ Fd 0 v
theorem feed_ok {Γ : Str → Option FP} {gl : Str → Option MV} {W d : Nat} {c : Nat → Cls} (g : Γ "_law_feed" = some p_x_feed) : Feed (cqOf Γ gl W (d + 1) (c)) := by
  refine ⟨sig_eq g, fun ns => ⟨fdA (ns.take 63) 0 0 0, ?_, _, _, _, _, rfl, Int.le_refl _, Int.le_refl _, Int.le_refl _, by omega, by simp; omega⟩⟩
  dsimp only
  rw [run_eq g rfl rfl]
  simp only [b_x_feed]
  have s1 : slP (.fro (ns.map .int)) none (some 63) = some (.own (.lst ((ns.take 63).map .int))) := by
    have := cut_h (xs := ns.map PV.int) (k := 63)
    simp only [slP]
    rw [show (63 : Int) = ((63 : Nat) : Int) from rfl, this, List.map_take]
  dsimp?! [s1]
  rfl
/-! prices -/
structure Price (X : CQ) : Prop where
  sig : X.sig "_law_price" = some ([.io, .pl], false)
  call : ∀ T v (b : Bool), Fd T v → T + 3 < line → ∃ (r : Int) (v' : PV), X.call "_law_price" [v, .bl b] = .ok (.val (.int r)) [v', .bl b] ∧ -100 < r ∧ r < 100 ∧ (b = false → 0 ≤ r) ∧ Fd (T + 3) v'
theorem price_ok {Γ : Str → Option FP} {gl : Str → Option MV} {W d : Nat} {c : Nat → Cls} (g : Γ "_law_price" = some p_x_price) (D : ∀ c, Draw (cqOf Γ gl W d (c))) : Price (cqOf Γ gl W (d + 1) (c)) := by
  refine ⟨sig_eq g, fun T v b hv hT => ?_⟩
  dsimp only
  rw [run_eq g rfl rfl]
  generalize hX : cqOf Γ gl W d (clOf [.io, .sh, .sh]) = X
  have hx : X.cl = clOf [.io, .sh, .sh] := by rw [← hX]
  have D : Draw X := by rw [← hX]; exact D _
  obtain ⟨r1, v1, e1, a1, b1, hv1⟩ := D.call T v 100 hv (by omega) (by decide) (by decide)
  obtain ⟨r2, v2, e2, a2, b2, hv2⟩ := D.call _ v1 8 hv1 (by omega) (by decide) (by decide)
  obtain ⟨q, hq, q0, q1⟩ : ∃ q : Int, atI [PV.int 1, PV.int 2, PV.int 3, PV.int 0, PV.int 5, PV.int 1, PV.int 99, PV.int r1] r2 = some (.int q) ∧ 0 ≤ q ∧ q < 100 := by
    obtain ⟨w, hw, ew⟩ := pick (l := [PV.int 1, PV.int 2, PV.int 3, PV.int 0, PV.int 5, PV.int 1, PV.int 99, PV.int r1]) a2 b2
    simp only [List.mem_cons, List.mem_nil_iff, or_false] at hw
    rcases hw with rfl | rfl | rfl | rfl | rfl | rfl | rfl | rfl
    all_goals exact ⟨_, ew, by omega, by omega⟩
  simp only [b_x_price]
  cases b with
  | false =>
    dsimp?! [hx, D.sig, rd_any hv.lk, rd_any hv1.lk, rd_any hv2.lk, e1, e2, hq, hv2.lk]
    exact ⟨q, v2, rfl, by omega, by omega, fun _ => q0, hv2.mono (by omega)⟩
  | true =>
    obtain ⟨r3, v3, e3, a3, b3, hv3⟩ := D.call _ v2 3 hv2 (by omega) (by decide) (by decide)
    by_cases c : r3 = 0
    · subst c
      dsimp?! [hx, D.sig, rd_any hv.lk, rd_any hv1.lk, rd_any hv2.lk, rd_any hv3.lk, e1, e2, e3, hq, hv3.lk]
      exact ⟨-q, v3, rfl, by omega, by omega, fun z => z.elim, hv3⟩
    · dsimp?! [hx, D.sig, rd_any hv.lk, rd_any hv1.lk, rd_any hv2.lk, rd_any hv3.lk, e1, e2, e3, hq, hv3.lk, beq_eq_false_iff_ne.mpr c]
      exact ⟨q, v3, rfl, by omega, by omega, fun z => z.elim, hv3⟩
/-! webs -/
abbrev AT := Nat × Nat × Int
def tieV (t : AT) : PV := .tup [.int t.1, .int t.2.1, .int t.2.2]
def webV (n : Nat) (ts : List AT) : PV := .tup [.int n, .tup (ts.map tieV)]
def okA (b : Bool) (n : Nat) (t : AT) : Prop := t.1 < t.2.1 ∧ t.2.1 < n ∧ -100 < t.2.2 ∧ t.2.2 < 100 ∧ (b = false → 0 ≤ t.2.2)
theorem gd_tie {b : Bool} {n : Nat} (hn : n ≤ 1000000) {t : AT} (h : okA b n t) : Gd (tieV t) := by
  obtain ⟨h1, h2, h3, h4, _⟩ := h
  refine ⟨?_, by simp [tieV, hP, hPs]⟩
  simp only [tieV, gP, gPs, Bool.and_true, Bool.and_eq_true, decide_eq_true_eq]
  omega
theorem gd_ties {b : Bool} {n : Nat} (hn : n ≤ 1000000) {ts : List AT} (h : ∀ t ∈ ts, okA b n t) : ∀ v ∈ ts.map tieV, Gd v := fun v hv => by
  obtain ⟨t, ht, rfl⟩ := List.mem_map.mp hv
  exact gd_tie hn (h t ht)
theorem ins_at {xs : List PV} {k : Nat} {v : PV} (h : xs.length < 1000000) (h2 : k < 1000000) : methP .insert (.lst xs) [.int (k : Int), v] = some (.non, .lst (xs.take k ++ [v] ++ xs.drop k)) := by
  simp only [methP]
  rw [if_pos (by refine ⟨by simpa [lineM] using h, by omega, by omega⟩)]
  simp
structure WebS (X : CQ) : Prop where
  sig : X.sig "_law_web" = some ([.io, .pl, .pl, .pl], false)
  call : ∀ T v (p m : Nat) (b : Bool), Fd T v → T + 10000 < line → 1 ≤ p → p ≤ 100 → m ≤ 500 → ∃ (n : Nat) (ts : List AT) (v' : PV), X.call "_law_web" [v, .int p, .int m, .bl b] = .ok (.val (webV n ts)) [v', .int p, .int m, .bl b] ∧ 1 ≤ n ∧ n ≤ p ∧ ts.length ≤ m ∧ (∀ t ∈ ts, okA b n t) ∧ Fd (T + 10000) v'
def wcl : List Cls := [.io, .sh, .sh, .sh, .sh, .sh, .ow, .sh, .sh, .sh]
theorem web_4 {X : CQ} (hx : X.cl = clOf wcl) (P : Price X) {T : Nat} {v : PV} {p m : PV} {b : Bool} {n : Nat} {way : Int} (hv : Fd T v) (hT : T + 1000 < line) (hn : 1 ≤ n) (hn2 : n ≤ 100) :
    Evq (evTs' X (b_x_web.drop 3 |>.take 1) [some v, some p, some m, some (.bl b), some (.int n), some (.int way), some (.lst []), none, none, none]) fun fl σ => fl = .nx ∧ ∃ (ts : List AT) (u : PV), σ = [some u, some p, some m, some (.bl b), some (.int n), some (.int way), some (.lst (ts.map tieV)), none, none, none] ∧ Fd (T + 300) u ∧ ts.length ≤ n ∧ ∀ t ∈ ts, okA b n t := by
  simp only [b_x_web, List.drop_succ_cons, List.drop_zero, List.take_succ_cons, List.take_zero]
  by_cases c : way < 2
  · have en : (n : Int) - 1 = ((n - 1 : Nat) : Int) := by omega
    dsimp?! [hx, wcl, c, en, it_rng' (show n - 1 ≤ 1000000 by omega), lm_le (show n - 1 ≤ 1000000 by omega)]
    refine .bnd (compD_inv (fun i zs σ => ∃ (ts : List AT) (u : PV), zs = ts.map tieV ∧ ts.length = i ∧ σ = [some u, some p, some m, some (.bl b), some (.int n), some (.int way), some (.lst []), none, none, none] ∧ Fd (T + 3 * i) u ∧ i ≤ n - 1 ∧ ∀ t ∈ ts, okA b n t) ⟨[], v, rfl, rfl, rfl, hv, by omega, by simp⟩ ?_ ?_)
    · rintro i w zs σ hi ⟨ts, u, rfl, hl, rfl, hu, hi0, ok⟩
      obtain ⟨rfl, hi2⟩ := rng_at hi
      obtain ⟨r, u', e, r1, r2, r3, hu'⟩ := P.call (T + 3 * i) u b hu (by omega)
      have z0 : (0 : Int) + (i : Int) = i := by omega
      dsimp?! [hx, wcl, P.sig, rd_any hu.lk, rd_any hu'.lk, e, z0]
      refine .ok ⟨ts ++ [(i, i + 1, r)], u', by simp [tieV], by simp [hl], rfl, hu'.mono (by omega), by omega, fun t ht => ?_⟩
      rcases List.mem_append.mp ht with q | q
      · exact ok t q
      · simp at q; subst q; exact ⟨by dsimp only; omega, by dsimp only; omega, r1, r2, r3⟩
    · rintro zs σ ⟨ts, u, rfl, hl, rfl, hu, hi0, ok⟩
      rw [rng_len] at hl hu
      dsimp?! [hx, wcl]
      exact .ok ⟨rfl, ts, u, rfl, hu.mono (by omega), by omega, ok⟩
  · dsimp?! [hx, wcl, c]
    exact .ok ⟨rfl, [], v, rfl, hv.mono (by omega), by simp, by simp⟩
theorem web_5 {X : CQ} (hx : X.cl = clOf wcl) (P : Price X) {T : Nat} {v : PV} {p m : PV} {b : Bool} {n : Nat} {way : Int} {ts : List AT} (hv : Fd T v) (hT : T + 1000 < line) (hn : 1 ≤ n) (hn2 : n ≤ 100) (hl : ts.length ≤ n) (ok : ∀ t ∈ ts, okA b n t) :
    Evq (evTs' X (b_x_web.drop 4 |>.take 1) [some v, some p, some m, some (.bl b), some (.int n), some (.int way), some (.lst (ts.map tieV)), none, none, none]) fun fl σ => fl = .nx ∧ ∃ (ts : List AT) (u : PV), σ = [some u, some p, some m, some (.bl b), some (.int n), some (.int way), some (.lst (ts.map tieV)), none, none, none] ∧ Fd (T + 3) u ∧ ts.length ≤ n + 1 ∧ ∀ t ∈ ts, okA b n t := by
  simp only [b_x_web, List.drop_succ_cons, List.drop_zero, List.take_succ_cons, List.take_zero]
  by_cases c : way = 0
  · by_cases c1 : (1 : Int) < n
    · obtain ⟨r, u', e, r1, r2, r3, hu'⟩ := P.call T v b hv (by omega)
      have al : (ts.map tieV).length < 1000000 := by simp; omega
      dsimp?! [hx, wcl, c, c1, P.sig, rd_any hv.lk, rd_any hu'.lk, e, app_at al]
      refine .ok ⟨rfl, ts ++ [(0, n - 1, r)], u', ?_, hu', by simp; omega, fun t ht => ?_⟩
      · simp [tieV]; omega
      · rcases List.mem_append.mp ht with q | q
        · exact ok t q
        · simp at q; subst q; exact ⟨by dsimp only; omega, by dsimp only; omega, r1, r2, r3⟩
    · dsimp?! [hx, wcl, c, c1]
      exact .ok ⟨rfl, ts, v, rfl, hv.mono (by omega), by omega, ok⟩
  · dsimp?! [hx, wcl, beq_eq_false_iff_ne.mpr c]
    exact .ok ⟨rfl, ts, v, rfl, hv.mono (by omega), by omega, ok⟩
theorem web_6 {X : CQ} (hx : X.cl = clOf wcl) (D : Draw X) (P : Price X) {T : Nat} {v : PV} {p : PV} {m : Nat} {b : Bool} {n : Nat} {way : Int} {ts0 : List AT} (hv : Fd T v) (hT : T + 9000 < line) (hn : 1 ≤ n) (hn2 : n ≤ 100) (hm : m ≤ 500) (hl0 : ts0.length ≤ n + 1) (ok0 : ∀ t ∈ ts0, okA b n t) :
    Evq (evTs' X (b_x_web.drop 5 |>.take 1) [some v, some p, some (.int m), some (.bl b), some (.int n), some (.int way), some (.lst (ts0.map tieV)), none, none, none]) fun fl σ => fl = .nx ∧ ∃ (ts : List AT) (u : PV) (x7 x8 x9 : Option PV), σ = [some u, some p, some (.int m), some (.bl b), some (.int n), some (.int way), some (.lst (ts.map tieV)), x7, x8, x9] ∧ Fd (T + 1 + 8 * m) u ∧ ts.length ≤ 1000 ∧ ∀ t ∈ ts, okA b n t := by
  simp only [b_x_web, List.drop_succ_cons, List.drop_zero, List.take_succ_cons, List.take_zero]
  obtain ⟨r, u, e, r0, r1, hu⟩ := D.call T v ((m : Int) + 1) hv (by omega) (by omega) (by omega)
  generalize hk : r * (if decide ((1 : Int) < n) = true then 1 else 0) = k
  have k0 : 0 ≤ k ∧ k ≤ m ∧ (0 < k → 1 < n) := by subst hk; split <;> rename_i z <;> simp at z <;> omega
  obtain ⟨k, rfl⟩ : ∃ j : Nat, k = (j : Int) := ⟨k.toNat, by omega⟩
  have bm : binP .Mult (.int r) (.int (if decide ((1 : Int) < n) = true then 1 else 0)) = some (.val (.int (k : Nat))) := by rw [← hk]; exact bp_mul (.inr (by split <;> decide))
  dsimp?! [hx, wcl, D.sig, rd_any hv.lk, rd_any hu.lk, e, bm, it_rng' (show k ≤ 1000000 by omega)]
  refine .bnd ((forD_inv (fun i σ => ∃ (ts : List AT) (w : PV) (x7 x8 x9 : Option PV), σ = [some w, some p, some (.int m), some (.bl b), some (.int n), some (.int way), some (.lst (ts.map tieV)), x7, x8, x9] ∧ Fd (T + 1 + 8 * i) w ∧ i ≤ k ∧ ts.length = ts0.length + i ∧ ∀ t ∈ ts, okA b n t)
    ⟨ts0, u, none, none, none, rfl, hu, by omega, rfl, ok0⟩ ?_).imp ?_)
  · rintro i w σ hi ⟨ts, w, x7, x8, x9, rfl, hw, hik, hl, ok⟩
    obtain ⟨rfl, hi2⟩ := rng_at hi
    have n1 : 1 < n := by omega
    obtain ⟨r1, w1, e1, a1, b1, hw1⟩ := D.call _ w ((n : Int) - 1) hw (by omega) (by omega) (by omega)
    obtain ⟨r2, w2, e2, a2, b2, hw2⟩ := D.call _ w1 ((n : Int) - 1 - r1) hw1 (by omega) (by omega) (by omega)
    obtain ⟨r3, w3, e3, a3, b3, c3, hw3⟩ := P.call _ w2 b hw2 (by omega)
    have hN : okA b n (r1.toNat, (r1 + 1 + r2).toNat, r3) := ⟨by dsimp only; omega, by dsimp only; omega, a3, b3, c3⟩
    have eN : PV.tup [.int r1, .int (r1 + 1 + r2), .int r3] = tieV (r1.toNat, (r1 + 1 + r2).toNat, r3) := by simp [tieV]; omega
    generalize (r1.toNat, (r1 + 1 + r2).toNat, r3) = N at hN eN
    have gL := gd_ties (by omega) ok
    have enn := ne_nilG gL
    have tl : (ts.map tieV).length < 1000000 := by simp; omega
    have lt : ∀ t : AT, isLk (tieV t) = false := fun _ => rfl
    -- where the tie is put
    have fin : ∀ (M : AT) (T' : Nat) (u : PV), okA b n M → Fd T' u → T' ≤ T + 1 + 8 * i + 7 → Evq (evTs' X [.expr (.meth .insert (.var 6) [.call "_law_draw" [.var 0, .bin .Add (.blt .len [.var 6]) (.c (.int 1))], .var 9])] [some u, some p, some (.int m), some (.bl b), some (.int n), some (.int way), some (.lst (ts.map tieV)), some (.int (0 + i)), some (.int r1), some (tieV M)]) fun fl σ' => (fl = .nx ∨ fl = .cont) ∧ ∃ (ts : List AT) (w : PV) (x7 x8 x9 : Option PV), σ' = [some w, some p, some (.int m), some (.bl b), some (.int n), some (.int way), some (.lst (ts.map tieV)), x7, x8, x9] ∧ Fd (T + 1 + 8 * (i + 1)) w ∧ i + 1 ≤ k ∧ ts.length = ts0.length + (i + 1) ∧ ∀ t ∈ ts, okA b n t := by
      intro M T' u hM hu hT'
      obtain ⟨r5, w5, e5, a5, b5, hw5⟩ := D.call _ u ((ts.length : Int) + 1) hu (by omega) (by omega) (by omega)
      obtain ⟨j, rfl⟩ : ∃ j : Nat, r5 = (j : Int) := ⟨r5.toNat, by omega⟩
      dsimp?! [hx, wcl, D.sig, rd_any hu.lk, rd_any hw5.lk, rd_any (lt M), e5, ins_at tl (show j < 1000000 by omega)]
      refine .ok ⟨.inl rfl, ts.take j ++ [M] ++ ts.drop j, w5, some (.int (0 + i)), some (.int r1), some (tieV M), by simp [List.map_take, List.map_drop], hw5.mono (by omega), by omega, by simp; omega, fun t ht => ?_⟩
      rcases List.mem_append.mp ht with q | q
      · rcases List.mem_append.mp q with q | q
        · exact ok t (List.mem_of_mem_take q)
        · simp at q; subst q; exact hM
      · exact ok t (List.mem_of_mem_drop q)
    simp_all?! [hx, wcl]
    rw [tk 3]
    simp only [List.take_succ_cons, List.take_zero, List.drop_succ_cons, List.drop_zero]
    by_cases ce : ts = []
    · subst ce
      simp only [List.map_nil, List.isEmpty_nil, Bool.not_true] at enn
      simp only [List.map_nil]
      dsimp?! [hx, wcl, D.sig, P.sig, rd_any hw.lk, rd_any hw1.lk, rd_any hw2.lk, rd_any hw3.lk, e1, e2, e3, enn, eN]
      exact fin N _ w3 hN hw3 (by omega)
    · have cf : (ts.map tieV).isEmpty = false := by simpa using ce
      rw [cf] at enn
      obtain ⟨r4, w4, e4, a4, b4, hw4⟩ := D.call _ w3 5 hw3 (by omega) (by decide) (by decide)
      by_cases c5 : r4 = 0
      · subst c5
        have lp : 0 < ts.length := List.length_pos_iff.mpr ce
        obtain ⟨r6, w6, e6, a6, b6, hw6⟩ := D.call _ w4 (ts.length : Int) hw4 (by omega) (by omega) (by omega)
        obtain ⟨j, rfl⟩ : ∃ j : Nat, r6 = (j : Int) := ⟨r6.toNat, by omega⟩
        have hj : j < ts.length := by omega
        have aj : atI (ts.map tieV) (j : Int) = some (tieV ts[j]) := by rw [at_nat, List.getElem?_map, List.getElem?_eq_getElem hj]; rfl
        dsimp?! [hx, wcl, D.sig, P.sig, rd_any hw.lk, rd_any hw1.lk, rd_any hw2.lk, rd_any hw3.lk, rd_any hw4.lk, rd_any hw6.lk, e1, e2, e3, e4, e6, enn, Bool.not_false, eN, aj]
        exact fin ts[j] _ w6 (ok _ (List.getElem_mem hj)) hw6 (by omega)
      · dsimp?! [hx, wcl, D.sig, P.sig, rd_any hw.lk, rd_any hw1.lk, rd_any hw2.lk, rd_any hw3.lk, rd_any hw4.lk, e1, e2, e3, e4, enn, Bool.not_false, eN, beq_eq_false_iff_ne.mpr c5]
        exact fin N _ w4 hN hw4 (by omega)
  · rintro fl σ ⟨rfl, ts, w, x7, x8, x9, rfl, hw, hik, hl, ok⟩
    rw [rng_len] at hl hw
    dsimp?! [hx, wcl]
    exact .ok ⟨rfl, ts, w, _, _, _, rfl, hw.mono (by omega), by omega, ok⟩
theorem web_ok {Γ : Str → Option FP} {gl : Str → Option MV} {W d : Nat} {c : Nat → Cls} (g : Γ "_law_web" = some p_x_web) (D : ∀ c, Draw (cqOf Γ gl W d (c))) (P : ∀ c, Price (cqOf Γ gl W d (c))) : WebS (cqOf Γ gl W (d + 1) (c)) := by
  refine ⟨sig_eq g, fun T v p m b hv hT h1 h2 h3 => ?_⟩
  dsimp only
  rw [run_eq g rfl rfl]
  generalize hX : cqOf Γ gl W d (clOf [.io, .sh, .sh, .sh, .sh, .sh, .ow, .sh, .sh, .sh]) = X
  have hx : X.cl = clOf wcl := by rw [← hX]; rfl
  have D : Draw X := by rw [← hX]; exact D _
  have P : Price X := by rw [← hX]; exact P _
  obtain ⟨r, u, e, r0, r1, hu⟩ := D.call T v p hv (by omega) (by omega) (by omega)
  obtain ⟨n, hn⟩ : ∃ n : Nat, 1 + r = (n : Int) := ⟨(1 + r).toNat, by omega⟩
  obtain ⟨way, u2, e2, w0, w1, hu2⟩ := D.call _ u 4 hu (by omega) (by decide) (by decide)
  have fin : Evo (finQ [.io, .pl, .pl, .pl] false [v, .int p, .int m, .bl b] (evTs' X b_x_web [some v, some (.int p), some (.int m), some (.bl b), none, none, none, none, none, none])) fun o ios => ∃ (n : Nat) (ts : List AT) (v' : PV), o = .val (webV n ts) ∧ ios = [v', .int p, .int m, .bl b] ∧ 1 ≤ n ∧ n ≤ p ∧ ts.length ≤ m ∧ (∀ t ∈ ts, okA b n t) ∧ Fd (T + 10000) v' := by
    refine finQ_ev ?_
    rw [tk 3, show b_x_web.take 3 = [.asg (.nm 4) (.bin .Add (.c (.int 1)) (.call "_law_draw" [.var 0, .var 1])), .asg (.nm 5) (.call "_law_draw" [.var 0, .c (.int 4)]), .asg (.nm 6) (.lst [])] from rfl]
    dsimp?! [hx, wcl, D.sig, rd_any hv.lk, rd_any hu.lk, e, e2, hn]
    rw [tk 1]
    refine .bnd ((web_4 hx P hu2 (by omega) (by omega) (by omega)).imp ?_)
    rintro fl σ ⟨rfl, ts, u, rfl, hu, hl, ok⟩
    rw [th_nx, tk 1]
    refine .bnd ((web_5 hx P hu (by omega) (by omega) (by omega) hl ok).imp ?_)
    rintro fl σ ⟨rfl, ts, u, rfl, hu, hl, ok⟩
    rw [th_nx, tk 1]
    refine .bnd ((web_6 hx D P hu (by omega) (by omega) (by omega) h3 hl ok).imp ?_)
    rintro fl σ ⟨rfl, ts, u, x7, x8, x9, rfl, hu, hl, ok⟩
    rw [th_nx, show List.drop 1 (List.drop 1 (List.drop 1 (b_x_web.drop 3))) = [.ret (.tup [.var 4, .blt .tuple [.slH (.var 6) (.var 2)]])] from rfl]
    dsimp?! [hx, wcl, rd_any hu.lk, sl_hL]
    refine .ok (.ret ?_)
    dsimp?! [hu.lk]
    refine .ok ⟨n, ts.take m, u, by simp [webV, List.map_take], rfl, by omega, by omega, by simp; omega, fun t ht => ok t (List.mem_of_mem_take ht), hu.mono (by omega)⟩
  obtain ⟨o, ios, e, n, ts, v', rfl, rfl, q⟩ := fin
  exact ⟨n, ts, v', e, q⟩
/-! sets of numbers -/
def natsP (S : List Nat) : List PV := S.map fun k : Nat => .int (k : Int)
structure Some (X : CQ) : Prop where
  sig : X.sig "_law_some" = some ([.io, .pl], false)
  call : ∀ T v (m : Nat), Fd T v → T + 1100 < line → m ≤ 1000 → ∃ (S : List Nat) (v' : PV), X.call "_law_some" [v, .int m] = .ok (.val (.tup (natsP S))) [v', .int m] ∧ S.Pairwise (· < ·) ∧ (∀ s ∈ S, s < m) ∧ Fd (T + 1100) v'
theorem rng_nats {n : Nat} : rngIP 0 n = natsP (List.range n) := by
  simp only [rngIP, natsP]
  refine List.map_congr_left fun k _ => ?_
  rw [Int.zero_add]
theorem some_ok {Γ : Str → Option FP} {gl : Str → Option MV} {W d : Nat} {c : Nat → Cls} (g : Γ "_law_some" = some p_x_some) (D : ∀ c, Draw (cqOf Γ gl W d (c))) : Some (cqOf Γ gl W (d + 1) (c)) := by
  refine ⟨sig_eq g, fun T v m hv hT hm => ?_⟩
  dsimp only
  rw [run_eq g rfl rfl]
  generalize hX : cqOf Γ gl W d (clOf [.io, .sh, .sh, .sh]) = X
  have hx : X.cl = clOf [.io, .sh, .sh, .sh] := by rw [← hX]
  have D : Draw X := by rw [← hX]; exact D _
  obtain ⟨way, u, e, w0, w1, hu⟩ := D.call T v 6 hv (by omega) (by decide) (by decide)
  by_cases c : way < 2
  · have hw : way = 0 ∨ way = 1 := by omega
    have em : binP .Mult (.int m) (.int way) = some (.val (.int ((m * way.toNat : Nat) : Int))) := by
      rw [bp_mul (.inr (by omega))]
      rcases hw with rfl | rfl <;> simp
    have er : rngP (.int 0) (.int ((m * way.toNat : Nat) : Int)) = some (rngIP 0 (m * way.toNat)) := rngP_ok (by rcases hw with rfl | rfl <;> simp <;> omega)
    simp only [b_x_some]
    dsimp?! [hx, D.sig, rd_any hv.lk, rd_any hu.lk, e, c, em, er, hu.lk]
    refine ⟨List.range (m * way.toNat), u, by rw [rng_nats], List.pairwise_lt_range, fun s hs => ?_, hu.mono (by omega)⟩
    rcases hw with rfl | rfl <;> simp at hs <;> omega
  · have fin : Evo (finQ [.io, .pl] false [v, .int m] (evTs' X b_x_some [some v, some (.int m), none, none])) fun o ios => ∃ (S : List Nat) (v' : PV), o = .val (.tup (natsP S)) ∧ ios = [v', .int m] ∧ S.Pairwise (· < ·) ∧ (∀ s ∈ S, s < m) ∧ Fd (T + 1100) v' := by
      refine finQ_ev ?_
      simp only [b_x_some]
      dsimp?! [hx, D.sig, rd_any hv.lk, rd_any hu.lk, e, c, it_rng' (show m ≤ 1000000 by omega), lm_le (show m ≤ 1000000 by omega)]
      refine .bnd (compD_inv (fun i zs σ => ∃ (S : List Nat) (w : PV), zs = natsP S ∧ S.Pairwise (· < ·) ∧ (∀ s ∈ S, s < i) ∧ i ≤ m ∧ σ = [some w, some (.int m), some (.int way), none] ∧ Fd (T + 1 + i) w) ⟨[], u, rfl, .nil, by simp, by omega, rfl, hu⟩ ?_ ?_)
      · rintro i x zs σ hi ⟨S, w, rfl, hp, hS, him, rfl, hw⟩
        obtain ⟨rfl, hi2⟩ := rng_at hi
        obtain ⟨r, w', e2, r0, r1, hw'⟩ := D.call _ w way hw (by omega) (by omega) (by omega)
        have z0 : (0 : Int) + (i : Int) = i := by omega
        by_cases c2 : r = 0
        · subst c2
          dsimp?! [hx, D.sig, rd_any hw.lk, rd_any hw'.lk, e2, z0]
          refine .ok ⟨S ++ [i], w', by simp [natsP], ?_, fun s hs => ?_, by omega, rfl, hw'.mono (by omega)⟩
          · rw [List.pairwise_append]
            refine ⟨hp, by simp, fun a ha b hb => ?_⟩
            simp at hb; subst hb; exact hS a ha
          · rcases List.mem_append.mp hs with q | q
            · have := hS s q; omega
            · simp at q; omega
        · dsimp?! [hx, D.sig, rd_any hw.lk, rd_any hw'.lk, e2, z0, beq_eq_false_iff_ne.mpr c2]
          exact .ok ⟨S, w', by simp, hp, fun s hs => by have := hS s hs; omega, by omega, rfl, hw'.mono (by omega)⟩
      · rintro zs σ ⟨S, w, rfl, hp, hS, him, rfl, hw⟩
        rw [rng_len] at hS hw
        dsimp?! [hx, rd_any hw.lk]
        refine .ok (.ret ?_)
        dsimp?! [hw.lk]
        exact .ok ⟨S, w, rfl, rfl, hp, hS, hw.mono (by omega)⟩
    obtain ⟨o, ios, e, S, v', rfl, rfl, q⟩ := fin
    exact ⟨S, v', e, q⟩
end GA
end Mn

set_option autoImplicit false
set_option maxHeartbeats 1000000
/-! GAW: webs of many places (k01 to k05). -/
namespace Mn
namespace GA
open PySem L2
theorem erase_map {α β : Type} (f : α → β) : ∀ (l : List α) (k : Nat), (l.map f).eraseIdx k = (l.eraseIdx k).map f
  | [], _ => by simp
  | a :: l, 0 => by simp
  | a :: l, k + 1 => by simp [erase_map f l k]
/-! a web of many places -/
theorem mn_two {a b : Int} : bltP .min [.tup [.int a, .int b]] = some (.val (.int (if b < a then b else a))) := by
  have : PySem.W.minOf a [b] = if b < a then b else a := by
    show (if decide (b < a) = true then b else a) = _
    by_cases c : b < a <;> simp [c]
  simp only [bltP, seqsP, Option.bind_some, allIntsP, Option.map_some, this]
theorem mx_two {a b : Int} : bltP .max [.tup [.int a, .int b]] = some (.val (.int (if a < b then b else a))) := by
  have : PySem.W.maxOf a [b] = if a < b then b else a := by
    show (if decide (a < b) = true then b else a) = _
    by_cases c : a < b <;> simp [c]
  simp only [bltP, seqsP, Option.bind_some, allIntsP, Option.map_some, this]
def pairV (t : Nat × Nat) : PV := .tup [.int t.1, .int t.2]
structure Wide (X : CQ) : Prop where
  sig : X.sig "_law_wide" = some ([.io, .pl], false)
  call : ∀ T v (m : Nat), Fd T v → T + 10000 < line → m ≤ 200 → ∃ (n : Nat) (ts : List AT) (v' : PV), X.call "_law_wide" [v, .int m] = .ok (.val (webV n ts)) [v', .int m] ∧ 10 ≤ n ∧ n ≤ 60 ∧ ts.length ≤ 200 ∧ (∀ t ∈ ts, okA true n t) ∧ Fd (T + 10000) v'
def wdl : List Cls := [.io, .sh, .sh, .ow, .sh, .sh, .sh, .ow, .sh, .sh]
def okPr (n : Nat) (t : Nat × Nat) : Prop := t.1 < n ∧ t.2 < n ∧ t.1 ≠ t.2
theorem other_ne {n a r : Int} (a0 : 0 ≤ a) (an : a < n) (r0 : 0 ≤ r) (rn : r < n - 1) : 0 ≤ (a + 1 + r) % n ∧ (a + 1 + r) % n < n ∧ (a + 1 + r) % n ≠ a := by
  by_cases c : a + 1 + r < n
  · rw [Int.emod_eq_of_lt (by omega) c]; omega
  · have : (a + 1 + r) % n = a + 1 + r - n := by
      have e : a + 1 + r = (a + 1 + r - n) + n := by omega
      rw [e, Int.add_emod_right, Int.emod_eq_of_lt (by omega) (by omega)]
      omega
    omega
theorem at_end {α : Type} {l : List α} : atI l (-1) = l[l.length - 1]? := by
  cases hl : l with
  | nil => rfl
  | cons a l' =>
    unfold atI ixN
    rw [if_neg (by omega), if_pos (by simp; omega)]
    have : ((-1 : Int) + ((a :: l').length : Nat)).toNat = (a :: l').length - 1 := by simp; omega
    simp only [Option.bind_some, this]
/-- names by draws -/
theorem wide_names {X : CQ} (hx : X.cl = clOf wdl) (D : Draw X) {T : Nat} {v : PV} {m : PV} {n : Nat} (hv : Fd T v) (hT : T + 1000 < line) (hn2 : n ≤ 100) :
    Evq (evTs' X (b_x_wide.drop 1 |>.take 2) [some v, some m, some (.int n), none, none, none, none, none, none, none]) fun fl σ => fl = .nx ∧ ∃ (ks : List Nat) (u : PV) (x3 : Option PV), σ = [some u, some m, some (.int n), x3, some (.lst (natsP ks)), none, none, none, none, none] ∧ Fd (T + n) u ∧ ks.Perm (List.range n) := by
  simp only [b_x_wide, List.drop_succ_cons, List.drop_zero, List.take_succ_cons, List.take_zero]
  dsimp?! [hx, wdl, rngP_ok (show n ≤ 1000000 by omega), it_rng' (show n ≤ 1000000 by omega), lm_le (show n ≤ 1000000 by omega)]
  rw [rng_nats]
  refine .bnd (compD_inv (fun i zs σ => ∃ (ks left : List Nat) (u : PV), zs = natsP ks ∧ σ = [some u, some m, some (.int n), some (.lst (natsP left)), none, none, none, none, none, none] ∧ Fd (T + i) u ∧ i ≤ n ∧ (ks ++ left).Perm (List.range n) ∧ left.length + i = n) ⟨[], List.range n, v, rfl, rfl, hv, by omega, by simp, by simp⟩ ?_ ?_)
  · rintro i x zs σ hi ⟨ks, left, u, rfl, rfl, hu, hin, hp, hl⟩
    have hi2 : i < n := by have := (List.getElem?_eq_some_iff.mp hi).1; simpa [natsP] using this
    have hxi : x = .int (i : Int) := by
      have := (List.getElem?_eq_some_iff.mp hi).2
      simp [natsP] at this
      exact this.symm
    subst hxi
    obtain ⟨r, w, e, r0, r1, hw⟩ := D.call _ u left.length hu (by omega) (by omega) (by omega)
    obtain ⟨k, rfl⟩ : ∃ k : Nat, r = (k : Int) := ⟨r.toNat, by omega⟩
    have hk : k < left.length := by omega
    have hll : (natsP left).length = left.length := by simp [natsP]
    have pa := pop_at (xs := natsP left) (k := k) (by rw [hll]; exact hk) (by omega)
    have ge : (natsP left)[k]'(by rw [hll]; exact hk) = .int (left[k] : Nat) := by simp [natsP]
    have ee : (natsP left).eraseIdx k = natsP (left.eraseIdx k) := by simp only [natsP]; exact erase_map _ _ _
    rw [ge, ee] at pa
    dsimp?! [hx, wdl, D.sig, rd_any hu.lk, rd_any hw.lk, hll, e, pa]
    refine .ok ⟨ks ++ [left[k]], left.eraseIdx k, w, by simp [natsP], rfl, hw.mono (by omega), by omega, ?_, by rw [List.length_eraseIdx_of_lt hk]; omega⟩
    refine List.Perm.trans ?_ hp
    rw [List.append_assoc]
    exact List.Perm.append_left _ (erase_perm hk)
  · rintro zs σ ⟨ks, left, u, rfl, rfl, hu, hin, hp, hl⟩
    have ln : (natsP (List.range n)).length = n := by simp [natsP]
    rw [ln] at hl hu
    obtain rfl : left = [] := List.length_eq_zero_iff.mp (by omega)
    dsimp?! [hx, wdl]
    exact .ok ⟨rfl, ks, u, _, rfl, hu, by simpa using hp⟩
/-- pairs of neighbours -/
theorem wide_pairs {X : CQ} (hx : X.cl = clOf wdl) {u m x3 : Option PV} {n way : Nat} {ks : List Nat} (hn : 10 ≤ n) (hn2 : n ≤ 100) (hw : way ≤ 2) (hp : ks.Perm (List.range n)) :
    Evq (evTs' X (b_x_wide.drop 4 |>.take 1) [u, m, some (.int n), x3, some (.lst (natsP ks)), none, some (.int way), none, none, none]) fun fl σ => fl = .nx ∧ ∃ (ps : List (Nat × Nat)), σ = [u, m, some (.int n), x3, some (.lst (natsP ks)), none, some (.int way), some (.lst (ps.map pairV)), none, none] ∧ ps.length ≤ 100 ∧ ∀ t ∈ ps, okPr n t := by
  simp only [b_x_wide, List.drop_succ_cons, List.drop_zero, List.take_succ_cons, List.take_zero]
  have hl : ks.length = n := by simpa using hp.length_eq
  have hnd : ks.Nodup := hp.nodup_iff.mpr List.nodup_range
  have hlt : ∀ k ∈ ks, k < n := fun k hk => by simpa using hp.mem_iff.mp hk
  dsimp?! [hx, wdl, it_rng2' (show n ≤ 1000000 by omega) (show way ≤ 1000000 by omega), lm_le (show n - way ≤ 1000000 by omega)]
  refine .bnd (compD_inv (fun i zs σ => ∃ (ps : List (Nat × Nat)), zs = ps.map pairV ∧ ps.length = i ∧ i ≤ n - way ∧ σ = [u, m, some (.int n), x3, some (.lst (natsP ks)), none, some (.int way), none, none, none] ∧ ∀ t ∈ ps, okPr n t) ⟨[], rfl, rfl, by omega, rfl, by simp⟩ ?_ ?_)
  · rintro i x zs σ hi ⟨ps, rfl, hpl, hin, rfl, ok⟩
    obtain ⟨rfl, hi2⟩ := rng_at hi
    have z0 : (way : Int) + (i : Int) = ((way + i : Nat) : Int) := by omega
    have hj : way + i < ks.length := by omega
    have a1 : atI (natsP ks) ((way + i : Nat) : Int) = some (.int ((ks[way + i] : Nat) : Int)) := by
      rw [at_nat, natsP, List.getElem?_map, List.getElem?_eq_getElem hj]; rfl
    obtain ⟨j, hj2, hne, a2⟩ : ∃ j : Nat, ∃ hj2 : j < ks.length, j ≠ way + i ∧ atI (natsP ks) (((way + i : Nat) : Int) - 1) = some (.int ((ks[j] : Nat) : Int)) := by
      by_cases c : way + i = 0
      · refine ⟨ks.length - 1, by omega, by omega, ?_⟩
        have e : (((way + i : Nat) : Int) - 1) = -1 := by omega
        rw [e, at_end, natsP, List.getElem?_map, List.length_map, List.getElem?_eq_getElem (by omega)]; rfl
      · refine ⟨way + i - 1, by omega, by omega, ?_⟩
        have e : (((way + i : Nat) : Int) - 1) = ((way + i - 1 : Nat) : Int) := by omega
        rw [e, at_nat, natsP, List.getElem?_map, List.getElem?_eq_getElem (by omega)]; rfl
    dsimp?! [hx, wdl, z0, a1, a2]
    refine .ok ⟨ps ++ [(ks[j], ks[way + i])], by simp [pairV], by simp [hpl], by omega, rfl, fun t ht => ?_⟩
    rcases List.mem_append.mp ht with q | q
    · exact ok t q
    · simp only [List.mem_singleton] at q
      subst q
      exact ⟨hlt _ (List.getElem_mem _), hlt _ (List.getElem_mem _), fun z => hne (nd_ne hnd _ _ z)⟩
  · rintro zs σ ⟨ps, rfl, hpl, hin, rfl, ok⟩
    rw [rng_len] at hin hpl
    dsimp?! [hx, wdl]
    exact .ok ⟨rfl, ps, rfl, by omega, ok⟩
/-- in place of them, pairs by draws -/
theorem wide_drawn {X : CQ} (hx : X.cl = clOf wdl) (D : Draw X) {T : Nat} {u : PV} {m : Nat} {x3 : Option PV} {n way : Nat} {ks : PV} {ps : List (Nat × Nat)} (hv : Fd T u) (hT : T + 1000 < line) (hn : 10 ≤ n) (hn2 : n ≤ 100) (hm : m ≤ 200) (hl : ps.length ≤ 100) (ok : ∀ t ∈ ps, okPr n t) :
    Evq (evTs' X (b_x_wide.drop 5 |>.take 1) [some u, some (.int m), some (.int n), x3, some ks, none, some (.int way), some (.lst (ps.map pairV)), none, none]) fun fl σ => fl = .nx ∧ ∃ (ps : List (Nat × Nat)) (u : PV) (x5 x8 : Option PV), σ = [some u, some (.int m), some (.int n), x3, some ks, x5, some (.int way), some (.lst (ps.map pairV)), x8, none] ∧ Fd (T + 500) u ∧ ps.length ≤ 200 ∧ ∀ t ∈ ps, okPr n t := by
  simp only [b_x_wide, List.drop_succ_cons, List.drop_zero, List.take_succ_cons, List.take_zero]
  by_cases c : (way : Int) = 2
  · obtain ⟨r, v1, e, r0, r1, hv1⟩ := D.call T u ((m : Int) + 1) hv (by omega) (by omega) (by omega)
    obtain ⟨k, rfl⟩ : ∃ j : Nat, r = (j : Int) := ⟨r.toNat, by omega⟩
    dsimp?! [hx, wdl, c, D.sig, rd_any hv.lk, rd_any hv1.lk, e, it_rng' (show k ≤ 1000000 by omega)]
    refine .bnd ((forD_inv (fun i σ => ∃ (ps : List (Nat × Nat)) (w : PV) (x5 x8 : Option PV), σ = [some w, some (.int m), some (.int n), x3, some ks, x5, some (.int way), some (.lst (ps.map pairV)), x8, none] ∧ Fd (T + 1 + 2 * i) w ∧ ps.length = i ∧ i ≤ k ∧ ∀ t ∈ ps, okPr n t)
      ⟨[], v1, none, none, by simp [c], hv1, rfl, by omega, by simp⟩ ?_).imp ?_)
    · rintro i x σ hi ⟨ps, w, x5, x8, rfl, hw, hpl, hik, ok⟩
      obtain ⟨rfl, hi2⟩ := rng_at hi
      obtain ⟨a, w1, e1, a0, a1, hw1⟩ := D.call _ w (n : Int) hw (by omega) (by omega) (by omega)
      obtain ⟨b, w2, e2, b0, b1, hw2⟩ := D.call _ w1 ((n : Int) - 1) hw1 (by omega) (by omega) (by omega)
      obtain ⟨q0, q1, q2⟩ := other_ne a0 a1 b0 b1
      generalize hq : (a + 1 + b) % (n : Int) = q at q0 q1 q2
      have em : binP .Mod (.int (a + 1 + b)) (.int (n : Int)) = some (.val (.int q)) := by rw [bp_mod (by omega), hq]
      obtain ⟨a, rfl⟩ : ∃ j : Nat, a = (j : Int) := ⟨a.toNat, by omega⟩
      obtain ⟨q, rfl⟩ : ∃ j : Nat, q = (j : Int) := ⟨q.toNat, by omega⟩
      have al : (ps.map pairV).length < 1000000 := by simp; omega
      dsimp?! [hx, wdl, D.sig, rd_any hw.lk, rd_any hw1.lk, rd_any hw2.lk, e1, e2, em, app_at al]
      refine .ok ⟨.inl rfl, ps ++ [(a, q)], w2, some (.int (0 + i)), some (.int a), by simp [pairV], hw2.mono (by omega), by simp [hpl], by omega, fun t ht => ?_⟩
      rcases List.mem_append.mp ht with z | z
      · exact ok t z
      · simp only [List.mem_singleton] at z
        subst z
        exact ⟨by dsimp only; omega, by dsimp only; omega, by dsimp only; omega⟩
    · rintro fl σ ⟨rfl, ps, w, x5, x8, rfl, hw, hpl, hik, ok⟩
      rw [rng_len] at hpl hw
      dsimp?! [hx, wdl]
      exact .ok ⟨rfl, ps, w, x5, x8, by rw [c], hw.mono (by omega), by omega, ok⟩
  · dsimp?! [hx, wdl, beq_eq_false_iff_ne.mpr c]
    exact .ok ⟨rfl, ps, u, _, _, rfl, hv.mono (by omega), by omega, ok⟩
theorem wide_ok {Γ : Str → Option FP} {gl : Str → Option MV} {W d : Nat} {c : Nat → Cls} (g : Γ "_law_wide" = some p_x_wide) (D : ∀ c, Draw (cqOf Γ gl W d (c))) (P : ∀ c, Price (cqOf Γ gl W d (c))) : Wide (cqOf Γ gl W (d + 1) (c)) := by
  refine ⟨sig_eq g, fun T v m hv hT hm => ?_⟩
  dsimp only
  rw [run_eq g rfl rfl]
  generalize hX : cqOf Γ gl W d (clOf [.io, .sh, .sh, .ow, .sh, .sh, .sh, .ow, .sh, .sh]) = X
  have hx : X.cl = clOf wdl := by rw [← hX]; rfl
  have D : Draw X := by rw [← hX]; exact D _
  have P : Price X := by rw [← hX]; exact P _
  obtain ⟨r, u, e, r0, r1, hu⟩ := D.call T v 51 hv (by omega) (by omega) (by omega)
  obtain ⟨s, u2, e2, s0, s1, hu2⟩ := D.call _ u 4 hu (by omega) (by omega) (by omega)
  obtain ⟨n, hn, n1, n2⟩ : ∃ n : Nat, atI [PV.int 60, PV.int 10, PV.int 11, PV.int (10 + r)] s = some (.int (n : Int)) ∧ 10 ≤ n ∧ n ≤ 60 := by
    have : s = 0 ∨ s = 1 ∨ s = 2 ∨ s = 3 := by omega
    rcases this with rfl | rfl | rfl | rfl
    · exact ⟨60, rfl, by decide, by decide⟩
    · exact ⟨10, rfl, by decide, by decide⟩
    · exact ⟨11, rfl, by decide, by decide⟩
    · exact ⟨(10 + r).toNat, by rw [show (((10 + r).toNat : Nat) : Int) = 10 + r by omega]; rfl, by omega, by omega⟩
  have fin : Evo (finQ [.io, .pl] false [v, .int m] (evTs' X b_x_wide [some v, some (.int m), none, none, none, none, none, none, none, none])) fun o ios => ∃ (n : Nat) (ts : List AT) (v' : PV), o = .val (webV n ts) ∧ ios = [v', .int m] ∧ 10 ≤ n ∧ n ≤ 60 ∧ ts.length ≤ 200 ∧ (∀ t ∈ ts, okA true n t) ∧ Fd (T + 10000) v' := by
    refine finQ_ev ?_
    rw [tk 1, show b_x_wide.take 1 = [.asg (.nm 2) (.ix (.lst [.c (.int 60), .c (.int 10), .c (.int 11), .bin .Add (.c (.int 10)) (.call "_law_draw" [.var 0, .c (.int 51)])]) (.call "_law_draw" [.var 0, .c (.int 4)]))] from rfl]
    dsimp?! [hx, wdl, D.sig, rd_any hv.lk, rd_any hu.lk, rd_any hu2.lk, e, e2, hn]
    rw [tk 2]
    refine .bnd ((wide_names hx D hu2 (by omega) (by omega)).imp ?_)
    rintro fl σ ⟨rfl, ks, u3, x3, rfl, hu3, hp⟩
    obtain ⟨way, u4, e4, w0, w1, hu4⟩ := D.call _ u3 3 hu3 (by omega) (by omega) (by omega)
    obtain ⟨way, rfl⟩ : ∃ j : Nat, way = (j : Int) := ⟨way.toNat, by omega⟩
    rw [th_nx, tk 1, show List.take 1 (List.drop 2 (List.drop 1 b_x_wide)) = [.asg (.nm 6) (.call "_law_draw" [.var 0, .c (.int 3)])] from rfl]
    dsimp?! [hx, wdl, D.sig, rd_any hu3.lk, rd_any hu4.lk, e4]
    rw [tk 1]
    refine .bnd ((wide_pairs hx n1 (by omega) (show way ≤ 2 by omega) hp).imp ?_)
    rintro fl σ ⟨rfl, ps, rfl, hpl, ok⟩
    rw [th_nx, tk 1]
    refine .bnd ((wide_drawn hx D hu4 (by omega) n1 (by omega) hm hpl ok).imp ?_)
    rintro fl σ ⟨rfl, ps, u5, x5, x8, rfl, hu5, hpl, ok⟩
    rw [th_nx, show List.drop 1 (List.drop 1 (List.drop 1 (List.drop 2 (List.drop 1 b_x_wide)))) = [.ret (.tup [.var 2, .blt .tuple [.lc (.tup [.blt .min [.var 9], .blt .max [.var 9], .call "_law_price" [.var 0, .c (.bl true)]]) (.nm 9) .val (.var 7) (.c .non) [] [9]]])] from rfl]
    dsimp?! [hx, wdl, lm_le (show ps.length ≤ 1000000 by omega)]
    refine .bnd (compD_inv (fun i zs σ => ∃ (ts : List AT) (w : PV), zs = ts.map tieV ∧ ts.length = i ∧ i ≤ ps.length ∧ σ = [some w, some (.int m), some (.int n), x3, some (.lst (natsP ks)), x5, some (.int way), some .lck, x8, none] ∧ Fd (T + 2000 + 3 * i) w ∧ ∀ t ∈ ts, okA true n t) ⟨[], u5, rfl, rfl, by omega, rfl, hu5.mono (by omega), by simp⟩ ?_ ?_)
    · rintro i x zs σ hi ⟨ts, w, rfl, htl, hil, rfl, hw, okt⟩
      rw [List.getElem?_map] at hi
      obtain ⟨t, ht, rfl⟩ := Option.map_eq_some_iff.mp hi
      obtain ⟨hi2, ht2⟩ := List.getElem?_eq_some_iff.mp ht
      obtain ⟨o1, o2, o3⟩ := ok t (by rw [← ht2]; exact List.getElem_mem _)
      obtain ⟨r, w', e, r1, r2, r3, hw'⟩ := P.call _ w true hw (by omega)
      obtain ⟨t1, t2⟩ := t
      simp only at o1 o2 o3
      have emn : bltP .min [pairV (t1, t2)] = some (.val (.int ((min t1 t2 : Nat) : Int))) := by
        simp only [pairV, mn_two]
        split <;> (congr 3; omega)
      have emx : bltP .max [pairV (t1, t2)] = some (.val (.int ((max t1 t2 : Nat) : Int))) := by
        simp only [pairV, mx_two]
        split <;> (congr 3; omega)
      have lp : isLk (pairV (t1, t2)) = false := rfl
      have lp2 : isLD (pairV (t1, t2)) = false := rfl
      dsimp?! [hx, wdl, P.sig, rd_any hw.lk, rd_any hw'.lk, rd_any lp, lp2, e, emn, emx]
      refine .ok ⟨ts ++ [(min t1 t2, max t1 t2, r)], w', by simp [tieV], by simp [htl], by omega, rfl, hw'.mono (by omega), fun t ht => ?_⟩
      rcases List.mem_append.mp ht with q | q
      · exact okt t q
      · simp only [List.mem_singleton] at q
        subst q
        exact ⟨by dsimp only; omega, by dsimp only; omega, r1, r2, r3⟩
    · rintro zs σ ⟨ts, w, rfl, htl, hil, rfl, hw, okt⟩
      simp only [List.length_map] at htl hw
      dsimp?! [hx, wdl]
      refine .ok (.ret ?_)
      dsimp?! [hw.lk]
      exact .ok ⟨n, ts, w, rfl, rfl, n1, n2, by omega, okt, hw.mono (by omega)⟩
  obtain ⟨o, ios, e, n, ts, v', rfl, rfl, q⟩ := fin
  exact ⟨n, ts, v', e, q⟩
end GA
end Mn

set_option autoImplicit false
set_option maxHeartbeats 1000000
/-! GAB: things bent, and what rises (k01, k02). -/
namespace Mn
namespace GA
open PySem L2
theorem str_ok (s : String) : PyData.strOk (Str.ofString s) = true := by
  unfold PyData.strOk
  rw [Str.ofString_eq_toList]
  simp only [List.all_toArray]
  rw [List.all_eq_true]
  intro c hc
  obtain ⟨x, _, rfl⟩ := List.mem_map.mp hc
  have := x.valid
  simp only [decide_eq_true_eq]
  show x.val.toNat < 0x110000
  rcases this with z | z <;> omega
theorem txt_ok {i : Int} (h : i.natAbs < 10 ^ 45) : bltP .str [.int i] = some (.val (.str (Str.ofString (toString i)))) ∧ PyData.strOk (Str.ofString (toString i)) = true ∧ (Str.ofString (toString i)).length ≤ 46 := by
  refine ⟨?_, str_ok _, ?_⟩
  · simp only [bltP]
    rw [if_pos (log_small45 h)]
  · rw [ofString_length]
    exact int_text_length_le10 (by decide) h
mutual
/-- tuples of tuples of small numbers, truths and texts -/
def md : PV → Bool
  | .int i => decide (i.natAbs < 1000)
  | .bl _ => true
  | .non => true
  | .str s => PyData.strOk s
  | .tup xs => mds xs
  | _ => false
def mds : List PV → Bool
  | [] => true
  | x :: xs => md x && mds xs
end
theorem mds_mem {xs : List PV} (h : mds xs = true) {v : PV} (hv : v ∈ xs) : md v = true := by
  induction xs with
  | nil => cases hv
  | cons x xs ih =>
    simp only [mds, Bool.and_eq_true] at h
    rcases List.mem_cons.mp hv with rfl | q
    · exact h.1
    · exact ih h.2 q
theorem mds_of {xs : List PV} (h : ∀ v ∈ xs, md v = true) : mds xs = true := by
  induction xs with
  | nil => rfl
  | cons x xs ih => simp only [mds, Bool.and_eq_true]; exact ⟨h x (List.mem_cons_self ..), ih fun v hv => h v (List.mem_cons_of_mem _ hv)⟩
mutual
theorem md_gP : ∀ {v : PV}, md v = true → gP v 0 = true
  | .int i, h => by simp only [md, decide_eq_true_eq] at h; simp only [gP, decide_eq_true_eq]; omega
  | .tup xs, h => by simp only [md] at h; simp only [gP]; exact mds_gP h
  | .non, h => rfl
  | .bl _, h => rfl
  | .str _, h => by simpa [gP, md] using h
  | .lst _, h => by simp [md] at h
  | .fro _, h => by simp [md] at h
  | .dct _, h => by simp [md] at h
  | .lck, h => by simp [md] at h
theorem mds_gP : ∀ {v : List PV}, mds v = true → gPs v 0 = true
  | [], _ => rfl
  | x :: xs, h => by simp only [mds, Bool.and_eq_true] at h; simp only [gPs, Bool.and_eq_true]; exact ⟨md_gP h.1, mds_gP h.2⟩
end
theorem zPs_mem {xs : List PV} {v : PV} (hv : v ∈ xs) : zP v + 2 ≤ zPs xs := by
  induction xs with
  | nil => cases hv
  | cons x xs ih =>
    simp only [zPs]
    rcases List.mem_cons.mp hv with rfl | q
    · omega
    · have := ih q; omega
/-! odd things -/
structure Odd (X : CQ) : Prop where
  sig : X.sig "_law_odd" = some ([.io], false)
  call : ∀ T v, Fd T v → T < line → ∃ w v', X.call "_law_odd" [v] = .ok (.val w) [v'] ∧ gP w 1 = true ∧ hP w ≤ 1 ∧ zP w ≤ 200 ∧ Fd (T + 1) v'
theorem odd_ok {Γ : Str → Option FP} {gl : Str → Option MV} {W d : Nat} {c : Nat → Cls} (g : Γ "_law_odd" = some p_x_odd) (D : ∀ c, Draw (cqOf Γ gl W d (c))) : Odd (cqOf Γ gl W (d + 1) (c)) := by
  refine ⟨sig_eq g, fun T v hv hT => ?_⟩
  dsimp only
  rw [run_eq g rfl rfl]
  generalize hX : cqOf Γ gl W d (clOf [.io, .sh]) = X
  have hx : X.cl = clOf [.io, .sh] := by rw [← hX]
  have D : Draw X := by rw [← hX]; exact D _
  obtain ⟨r, u, e, r0, r1, hu⟩ := D.call T v 18 hv hT (by decide) (by decide)
  have p39 : binP .Pow (.int 10) (.int 39) = some (.val (.int (10 ^ 39))) := bp_pow (by decide)
  obtain ⟨w, hw, ew⟩ := pick (l := [.non, .bl true, .bl false, .int 0, .int 1, .int 2, .int (-1), .int 60, .int 61, .int (10 ^ 39), .str "", .str "way", .str "-", .tup [], .lst [], .tup [.int 0], .tup [.int 0, .int 1], .lst [.int 0, .int 1]]) r0 (by simpa using r1)
  simp only [b_x_odd]
  dsimp?! [hx, D.sig, rd_any hv.lk, rd_any hu.lk, e, p39, ew, hu.lk]
  refine ⟨w, u, rfl, ?_, ?_, ?_, hu⟩
  all_goals
    simp only [List.mem_cons, List.mem_nil_iff, or_false] at hw
    rcases hw with rfl | rfl | rfl | rfl | rfl | rfl | rfl | rfl | rfl | rfl | rfl | rfl | rfl | rfl | rfl | rfl | rfl | rfl <;> first | decide | exact str_ok _
/-! things bent -/
structure Bent (X : CQ) (k : Nat) : Prop where
  sig : X.sig "_law_bent" = some ([.io, .pl], false)
  call : ∀ T v t, Fd T v → T + 100 + 10 * k < line → md t = true → zP t ≤ 100000 → hP t ≤ k → ∃ w v', X.call "_law_bent" [v, t] = .ok (.val w) [v', t] ∧ gP w 1 = true ∧ hP w ≤ hP t + 2 ∧ zP w ≤ 2 * zP t + 1000 ∧ Fd (T + 10 * k + 10) v'
def bcl : List Cls := [.io, .sh, .sh, .sh, .sh]
/-- behind the way inwards -/
theorem bent_2 {X : CQ} (hx : X.cl = clOf bcl) (D : Draw X) (O : Odd X) {T : Nat} {v t : PV} (hv : Fd T v) (hT : T + 10 < line) (ht : md t = true) (hz : zP t ≤ 100000) :
    Evq (evTs' X (b_x_bent.drop 1) [some v, some t, none, none, none]) fun fl σ => ∃ w v' x2 x3 x4, fl = .ret (.val w) ∧ σ = [some v', some t, x2, x3, x4] ∧ gP w 1 = true ∧ hP w ≤ hP t + 2 ∧ zP w ≤ 2 * zP t + 1000 ∧ Fd (T + 3) v' := by
  simp only [b_x_bent, List.drop_succ_cons, List.drop_zero]
  obtain ⟨way, v1, e1, a1, b1, hv1⟩ := D.call T v 7 hv (by omega) (by decide) (by decide)
  obtain ⟨ow, v2, e2, g2, h2, z2, hv2⟩ := O.call _ v1 hv1 (by omega)
  cases t with
  | fro _ => simp [md] at ht
  | lck => simp [md] at ht
  | dct _ => simp [md] at ht
  | lst _ => simp [md] at ht
  | non =>
    dsimp?! [hx, bcl, D.sig, O.sig, rd_any hv.lk, rd_any hv1.lk, rd_any hv2.lk, e1, e2]
    exact .ok ⟨ow, v2, none, _, none, rfl, rfl, g2, by omega, by omega, hv2.mono (by omega)⟩
  | bl b =>
    dsimp?! [hx, bcl, D.sig, O.sig, rd_any hv.lk, rd_any hv1.lk, rd_any hv2.lk, e1, e2, show decide (Ty.tuple = Ty.int) = false from rfl, show decide (Ty.tuple = Ty.bool) = false from rfl, show decide (Ty.int = Ty.int) = true from rfl, show decide (Ty.bool = Ty.bool) = true from rfl, show decide (Ty.bool = Ty.int) = false from rfl]
    exact .ok ⟨ow, v2, none, _, none, rfl, rfl, g2, by omega, by omega, hv2.mono (by omega)⟩
  | str s =>
    dsimp?! [hx, bcl, D.sig, O.sig, rd_any hv.lk, rd_any hv1.lk, rd_any hv2.lk, e1, e2, rd_any (v := .str s) rfl, show decide (Ty.tuple = Ty.str) = false from rfl, show decide (Ty.int = Ty.str) = false from rfl]
    exact .ok ⟨ow, v2, none, _, none, rfl, rfl, g2, by omega, by omega, hv2.mono (by omega)⟩
  | int i =>
    simp only [md, decide_eq_true_eq] at ht
    by_cases c : way < 5
    · obtain ⟨t1, t2, t3⟩ := txt_ok (i := i) (by omega)
      obtain ⟨w, hw, ew⟩ := pick (l := [.int (i + 1), .int (i - 1), .int (-i), .bl (i == 1), .str (Str.ofString (toString i))]) a1 (by simpa using c)
      dsimp?! [hx, bcl, D.sig, O.sig, rd_any hv.lk, rd_any hv1.lk, rd_any hv2.lk, e1, e2, c, t1, ew, show decide (Ty.tuple = Ty.int) = false from rfl, show decide (Ty.int = Ty.int) = true from rfl, show decide (Ty.bool = Ty.int) = false from rfl]
      refine .ok ⟨w, v1, none, _, none, rfl, rfl, ?_, ?_, ?_, hv1.mono (by omega)⟩
      all_goals
        simp only [List.mem_cons, List.mem_nil_iff, or_false] at hw
        rcases hw with rfl | rfl | rfl | rfl | rfl <;> simp only [gP, gPs, hP, hPs, zP, zPs, t2, decide_eq_true_eq, Bool.and_true] <;> (try omega)
    · dsimp?! [hx, bcl, D.sig, O.sig, rd_any hv.lk, rd_any hv1.lk, rd_any hv2.lk, e1, e2, c, show decide (Ty.tuple = Ty.int) = false from rfl, show decide (Ty.int = Ty.int) = true from rfl, show decide (Ty.bool = Ty.int) = false from rfl]
      exact .ok ⟨ow, v2, none, _, none, rfl, rfl, g2, by omega, by omega, hv2.mono (by omega)⟩
  | tup xs =>
    have gx : gPs xs 0 = true := by have := md_gP ht; simpa [gP] using this
    have lz := len_zPs (a := xs)
    simp only [zP] at hz
    by_cases c : way < 5
    · obtain ⟨at', v3, e3, a3, b3, hv3⟩ := D.call _ v1 ((xs.length : Int) + 1) hv1 (by omega) (by omega) (by omega)
      obtain ⟨j, rfl⟩ : ∃ j : Nat, at' = (j : Int) := ⟨at'.toNat, by omega⟩
      obtain ⟨ow, v4, e4, g4, h4, z4, hv4⟩ := O.call _ v3 hv3 (by omega)
      have ej : (j : Int) + 1 = ((j + 1 : Nat) : Int) := by omega
      have l1 : (xs.take j).length + (xs.drop (j + 1)).length ≤ lineM := by simp [lineM]; omega
      have l2 : (xs.take (j + 1)).length + (xs.drop j).length ≤ lineM := by simp [lineM]; omega
      have l4 : xs.length + ([ow] : List PV).length ≤ lineM := by simp [lineM]; omega
      have l5 : ([.lst xs, .tup (xs.take j ++ xs.drop (j + 1)), .tup (xs.take (j + 1) ++ xs.drop j), .tup xs.reverse] : List PV).length + ([.tup (xs ++ [ow])] : List PV).length ≤ lineM := by simp [lineM]
      obtain ⟨w, hw, ew⟩ := pick (l := [.lst xs, .tup (xs.take j ++ xs.drop (j + 1)), .tup (xs.take (j + 1) ++ xs.drop j), .tup xs.reverse] ++ [.tup (xs ++ [ow])]) a1 (by simpa using c)
      simp only [List.cons_append, List.nil_append] at ew
      have lo : isLk ow = false := plain_lk (gP_plain g4)
      dsimp?! [hx, bcl, D.sig, O.sig, rd_any hv.lk, rd_any hv1.lk, rd_any hv3.lk, rd_any hv4.lk, e1, e3, e4, c, show decide (Ty.tuple = Ty.tuple) = true from rfl, sp_h, ej, sp_l, bp_addT l1, bp_addT l2, bp_addT l4, bp_addL l5, ew]
      refine .ok ⟨w, v4, _, _, _, rfl, rfl, ?_, ?_, ?_, hv4.mono (by omega)⟩
      all_goals
        have s1 : ∀ v ∈ xs.take j ++ xs.drop (j + 1), v ∈ xs := fun v hv => by
          rcases List.mem_append.mp hv with q | q
          · exact List.mem_of_mem_take q
          · exact List.mem_of_mem_drop q
        have s2 : ∀ v ∈ xs.take (j + 1) ++ xs.drop j, v ∈ xs := fun v hv => by
          rcases List.mem_append.mp hv with q | q
          · exact List.mem_of_mem_take q
          · exact List.mem_of_mem_drop q
        have z1 := zPs_split (a := xs) (k := j)
        have z2 := zPs_split (a := xs) (k := j + 1)
        have q1 := hPs_sub (Nat.le_refl (hPs xs)) s1
        have q2 := hPs_sub (Nat.le_refl (hPs xs)) s2
        have g0 : gPs xs 1 = true := gPs_up gx (by omega)
        have r1 : ∀ v ∈ xs.reverse, v ∈ xs := fun v hv => by simpa using hv
        have q3 := hPs_sub (Nat.le_refl (hPs xs)) r1
        simp only [List.cons_append, List.nil_append, List.mem_cons, List.mem_nil_iff, or_false] at hw
        rcases hw with rfl | rfl | rfl | rfl | rfl
        all_goals first
          | (simp only [gP]; exact gx)
          | (simp only [gP]; exact gPs_sub g0 s1)
          | (simp only [gP]; exact gPs_sub g0 s2)
          | (simp only [gP]; exact gPs_sub g0 r1)
          | (simp only [gP, gPs_app, g0, gPs, g4]; rfl)
          | (simp only [hP, hPs_app, hPs] at q1 q2 q3 ⊢; omega)
          | (simp only [zP, zPs_app, zPs, zPs_rev]; omega)
    · dsimp?! [hx, bcl, D.sig, O.sig, rd_any hv.lk, rd_any hv1.lk, rd_any hv2.lk, e1, e2, c, show decide (Ty.tuple = Ty.tuple) = true from rfl, show decide (Ty.int = Ty.tuple) = false from rfl]
      exact .ok ⟨ow, v2, none, _, none, rfl, rfl, g2, by omega, by omega, hv2.mono (by omega)⟩
theorem bent_body {X : CQ} (hx : X.cl = clOf bcl) (D : Draw X) (O : Odd X) {k : Nat} (k50 : k ≤ 50) (B : ∀ j, k = j + 1 → Bent X j) {T : Nat} {v t : PV} (hv : Fd T v) (hT : T + 100 + 10 * k < line) (ht : md t = true) (hz : zP t ≤ 100000) (hk : hP t ≤ k) :
    Evo (finQ [.io, .pl] false [v, t] (evTs' X b_x_bent [some v, some t, none, none, none])) fun o ios => ∃ w v', o = .val w ∧ ios = [v', t] ∧ gP w 1 = true ∧ hP w ≤ hP t + 2 ∧ zP w ≤ 2 * zP t + 1000 ∧ Fd (T + 10 * k + 10) v' := by
  refine finQ_ev ?_
  have two : ∀ (T' : Nat) (u : PV), Fd T' u → T' ≤ T + 5 → Evq (evTs' X (b_x_bent.drop 1) [some u, some t, none, none, none]) (RP [.io, .pl] false [v, t] fun o ios => ∃ w v', o = .val w ∧ ios = [v', t] ∧ gP w 1 = true ∧ hP w ≤ hP t + 2 ∧ zP w ≤ 2 * zP t + 1000 ∧ Fd (T + 10 * k + 10) v') := by
    intro T' u hu hT'
    refine (bent_2 hx D O hu (by omega) ht hz).imp ?_
    rintro fl σ ⟨w, v', x2, x3, x4, rfl, rfl, h1, h2, h3, h4⟩
    refine .ret ?_
    dsimp?! [h4.lk]
    exact .ok ⟨w, v', rfl, rfl, h1, h2, h3, h4.mono (by omega)⟩
  rw [tk 1, show b_x_bent.take 1 = [.ite (.and_ (.isi (.var 1) .tuple) (.and_ (.cmp .NotEq (.var 1) (.tup [])) (.cmp .Gt (.call "_law_draw" [.var 0, .c (.int 6)]) (.c (.int 0))))) [
    .asg (.nm 2) (.call "_law_draw" [.var 0, .blt .len [.var 1]]),
    .ret (.bin .Add (.bin .Add (.slH (.var 1) (.var 2)) (.tup [.call "_law_bent" [.var 0, .ix (.var 1) (.var 2)]])) (.slL (.var 1) (.bin .Add (.var 2) (.c (.int 1)))))] []] from rfl]
  cases t with
  | fro _ => simp [md] at ht
  | lck => simp [md] at ht
  | dct _ => simp [md] at ht
  | lst _ => simp [md] at ht
  | non =>
    dsimp?! [hx, bcl]
    exact two _ v hv (by omega)
  | bl b =>
    dsimp?! [hx, bcl, show decide (Ty.tuple = Ty.int) = false from rfl, show decide (Ty.tuple = Ty.bool) = false from rfl]
    exact two _ v hv (by omega)
  | str s =>
    dsimp?! [hx, bcl, rd_any (v := .str s) rfl, show decide (Ty.tuple = Ty.str) = false from rfl]
    exact two _ v hv (by omega)
  | int i =>
    dsimp?! [hx, bcl, show decide (Ty.tuple = Ty.int) = false from rfl]
    exact two _ v hv (by omega)
  | tup xs =>
    have gx : gPs xs 0 = true := by have := md_gP ht; simpa [gP] using this
    have lz := len_zPs (a := xs)
    have hk0 := hk
    have hz0 := hz
    simp only [zP] at hz
    simp only [hP] at hk
    have ene : cmpP .NotEq (.tup xs) (.tup []) = some (!xs.isEmpty) := by
      have g : gP (.tup xs) 6 = true := by simp only [gP]; exact gPs_up gx (by omega)
      simp only [cmpP, eq_p g (by omega) (w := .tup []) rfl (by decide) (.inl rfl), Option.map_some, tP]
      cases xs with
      | nil => rfl
      | cons x xs => simp [tPs, PyData.eqv, PyData.eqvAll]
    by_cases ce : xs = []
    · subst ce
      simp only [List.isEmpty_nil, Bool.not_true] at ene
      dsimp?! [hx, bcl, show decide (Ty.tuple = Ty.tuple) = true from rfl, ene]
      exact two _ v hv (by omega)
    · have cf : xs.isEmpty = false := by simpa using ce
      rw [cf] at ene
      have lp : 0 < xs.length := List.length_pos_iff.mpr ce
      obtain ⟨r, v1, e1, a1, b1, hv1⟩ := D.call T v 6 hv (by omega) (by decide) (by decide)
      by_cases c : 0 < r
      · obtain ⟨at', v2, e2, a2, b2, hv2⟩ := D.call _ v1 (xs.length : Int) hv1 (by omega) (by omega) (by omega)
        obtain ⟨j, rfl⟩ : ∃ j : Nat, at' = (j : Int) := ⟨at'.toNat, by omega⟩
        have hj : j < xs.length := by omega
        obtain ⟨k', rfl⟩ : ∃ k', k = k' + 1 := ⟨k - 1, by omega⟩
        have B := B k' rfl
        have hm : xs[j] ∈ xs := List.getElem_mem hj
        have hzm := zPs_mem hm
        obtain ⟨w, v3, e3, g3, h3, z3, hv3⟩ := B.call _ v2 xs[j] hv2 (by omega) (mds_mem (by simpa [md] using ht) hm) (by omega) (hPs_mem (by omega) hm)
        have ej : (j : Int) + 1 = ((j + 1 : Nat) : Int) := by omega
        have aj : atI xs (j : Int) = some xs[j] := by rw [at_nat, List.getElem?_eq_getElem hj]
        have lo : isLk w = false := plain_lk (gP_plain g3)
        have lx : isLk xs[j] = false := plain_lk (gP_plain (gPs_mem gx hm))
        have l1 : (xs.take j).length + ([w] : List PV).length ≤ lineM := by simp [lineM]; omega
        have l2 : (xs.take j ++ [w]).length + (xs.drop (j + 1)).length ≤ lineM := by simp [lineM]; omega
        dsimp?! [hx, bcl, D.sig, B.sig, rd_any hv.lk, rd_any hv1.lk, rd_any hv2.lk, rd_any hv3.lk, e1, e2, e3, c, Bool.not_false, show decide (Ty.tuple = Ty.tuple) = true from rfl, ene, sp_h, ej, sp_l, aj, bp_addT l1, bp_addT l2]
        refine .ok (.ret ?_)
        dsimp?! [hv3.lk]
        refine .ok ⟨_, v3, rfl, rfl, ?_, ?_, ?_, hv3.mono (by omega)⟩
        · have t1 : gPs (xs.take j) 1 = true := gPs_sub (gPs_up gx (by omega)) fun v hv => List.mem_of_mem_take hv
          have t2 : gPs (xs.drop (j + 1)) 1 = true := gPs_sub (gPs_up gx (by omega)) fun v hv => List.mem_of_mem_drop hv
          simp only [gP, gPs_app, gPs, t1, t2, g3]
          rfl
        · have q1 := hPs_sub (Nat.le_refl (hPs xs)) (b := xs.take j) fun v hv => List.mem_of_mem_take hv
          have q2 := hPs_sub (Nat.le_refl (hPs xs)) (b := xs.drop (j + 1)) fun v hv => List.mem_of_mem_drop hv
          have q3 := hPs_mem (Nat.le_refl (hPs xs)) hm
          simp only [hP, hPs_app, hPs]
          omega
        · have z1 := zPs_split (a := xs) (k := j)
          have ed : xs.drop j = xs[j] :: xs.drop (j + 1) := by simp
          rw [ed] at z1
          simp only [zPs] at z1
          simp only [zP, zPs_app, zPs]
          omega
      · dsimp?! [hx, bcl, D.sig, rd_any hv.lk, rd_any hv1.lk, e1, c, Bool.not_false, show decide (Ty.tuple = Ty.tuple) = true from rfl, ene]
        exact two _ v1 hv1 (by omega)
theorem bent_ok {Γ : Str → Option FP} {gl : Str → Option MV} {W : Nat} (g : Γ "_law_bent" = some p_x_bent) (D : ∀ d c, Draw (cqOf Γ gl W (d + 1) (c))) (O : ∀ d c, Odd (cqOf Γ gl W (d + 2) (c))) : ∀ (k d : Nat) (c : Nat → Cls), k + 3 ≤ d → k ≤ 50 → Bent (cqOf Γ gl W d (c)) k := by
  intro k
  induction k with
  | zero =>
    intro d c hd k50
    obtain ⟨d, rfl⟩ : ∃ e, d = e + 3 := ⟨d - 3, by omega⟩
    refine ⟨sig_eq g, fun T v t hv hT ht hz hk => ?_⟩
    dsimp only
    rw [run_eq g rfl rfl]
    obtain ⟨o, ios, e, w, v', rfl, rfl, q⟩ := bent_body (X := (cqOf Γ gl W (d + 2) (clOf [.io, .sh, .sh, .sh, .sh]))) rfl (D _ _) (O _ _) k50 (fun j z => by omega) hv hT ht hz hk
    exact ⟨w, v', e, q⟩
  | succ k ih =>
    intro d c hd k50
    obtain ⟨d, rfl⟩ : ∃ e, d = e + 3 := ⟨d - 3, by omega⟩
    refine ⟨sig_eq g, fun T v t hv hT ht hz hk => ?_⟩
    dsimp only
    rw [run_eq g rfl rfl]
    obtain ⟨o, ios, e, w, v', rfl, rfl, q⟩ := bent_body (X := (cqOf Γ gl W (d + 2) (clOf [.io, .sh, .sh, .sh, .sh]))) rfl (D _ _) (O _ _) k50 (fun j z => by
      obtain rfl : k = j := by omega
      exact ih (d + 2) _ (by omega) (by omega)) hv hT ht hz hk
    exact ⟨w, v', e, q⟩
/-! what rises -/
def inR (v : PV) (lo hi : Int) : Bool := match v with
  | .int i => decide (lo ≤ i) && decide (i ≤ hi)
  | _ => false
theorem inR_int {v : PV} {lo hi : Int} (h : inR v lo hi = true) : ∃ i, v = .int i ∧ lo ≤ i ∧ i ≤ hi := by
  cases v with
  | int i => simp only [inR, Bool.and_eq_true, decide_eq_true_eq] at h; exact ⟨i, rfl, h⟩
  | _ => cases h
/-- of a thing, whether it is a whole number within two bounds -/
structure Whole (X : CQ) : Prop where
  sig : X.sig "_law_whole" = some ([.pl, .pl, .pl], false)
  call : ∀ v (lo hi : Int), plain v = true → X.call "_law_whole" [v, .int lo, .int hi] = .ok (.val (.bl (inR v lo hi))) [v, .int lo, .int hi]
theorem whole_ok {Γ : Str → Option FP} {gl : Str → Option MV} {W : Nat} {d : Nat} {c : Nat → Cls} (g : Γ "_law_whole" = some p_x_whole) : Whole (cqOf Γ gl W (d + 1) (c)) := by
  refine ⟨sig_eq g, fun v lo hi hv => ?_⟩
  dsimp only
  rw [run_eq g rfl rfl]
  simp only [b_x_whole]
  cases v with
  | int i =>
    by_cases h1 : lo ≤ i
    · dsimp?! [h1, inR, show decide (Ty.int = Ty.bool) = false from rfl]
    · dsimp?! [h1, inR, show decide (Ty.int = Ty.bool) = false from rfl]
      simp [h1]
  | fro _ => cases hv
  | lck => cases hv
  | bl b => dsimp?! [inR, show decide (Ty.int = Ty.int) = true from rfl]
  | non => dsimp?! [inR]
  | str s => dsimp?! [inR, rd_any (v := .str s) rfl, show decide (Ty.int = Ty.str) = false from rfl]
  | tup s => dsimp?! [inR, show decide (Ty.int = Ty.tuple) = false from rfl]
  | lst s => dsimp?! [inR, show decide (Ty.int = Ty.list) = false from rfl]
  | dct s => dsimp?! [inR, show isiP (.dct s) .int = some false from rfl]
/-- of a thing, whether it is a whole number, no truth -/
def isW (v : PV) : Bool := match v with
  | .int _ => true
  | _ => false
structure IsW (X : CQ) : Prop where
  sig : X.sig "is_whole" = some ([.pl], false)
  call : ∀ v, plain v = true → X.call "is_whole" [v] = .ok (.val (.bl (isW v))) [v]
def b_is_whole : List MS := [
  .ret (.and_ (.isi (.var 0) .int) (.not_ (.isi (.var 0) .bool)))]
def p_is_whole : FP := ⟨1, 1, b_is_whole, [.sh], [.pl], false⟩
theorem isw_ok {Γ : Str → Option FP} {gl : Str → Option MV} {W : Nat} {d : Nat} {c : Nat → Cls} (g : Γ "is_whole" = some p_is_whole) : IsW (cqOf Γ gl W (d + 1) (c)) := by
  refine ⟨sig_eq g, fun v hv => ?_⟩
  dsimp only
  rw [run_eq g rfl rfl]
  simp only [b_is_whole]
  cases v with
  | int i => dsimp?! [isW, show decide (Ty.int = Ty.bool) = false from rfl]
  | fro _ => cases hv
  | lck => cases hv
  | bl b => dsimp?! [isW, show decide (Ty.int = Ty.int) = true from rfl]
  | non => dsimp?! [isW]
  | str s => dsimp?! [isW, rd_any (v := .str s) rfl, show decide (Ty.int = Ty.str) = false from rfl]
  | tup s => dsimp?! [isW, show decide (Ty.int = Ty.tuple) = false from rfl]
  | lst s => dsimp?! [isW, show decide (Ty.int = Ty.list) = false from rfl]
  | dct s => dsimp?! [isW, show isiP (.dct s) .int = some false from rfl]
/-- whether the numbers at k and behind it rise -/
def up (xs : List PV) (k : Nat) : Bool := match xs[k]?, xs[k + 1]? with
  | some (.int a), some (.int b) => decide (a < b)
  | _, _ => true
def asc (xs : List PV) : Bool := (List.range (xs.length - 1)).all fun k => up xs k
def risB (n : Int) (v : PV) : Bool := match v with
  | .tup xs => xs.all (fun v => inR v 0 (n - 1)) && asc xs
  | _ => false
structure Rises (X : CQ) : Prop where
  sig : X.sig "_law_rises" = some ([.pl, .pl], false)
  call : ∀ v (n : Int), Gd v → zP v ≤ 1000000 → X.call "_law_rises" [.int n, v] = .ok (.val (.bl (risB n v))) [.int n, v]
theorem in_bls {L : List PV} {p : PV → Bool} : cmpP .In (.bl false) (.lst (L.map fun v => .bl (p v))) = some (!L.all p) := by
  simp only [cmpP, inP, inLP]
  have : (List.map (fun v => PV.bl (p v)) L).all flatP = true := by simp [flatP]
  rw [if_pos (by simp [flatP, this])]
  congr 1
  induction L with
  | nil => rfl
  | cons x L ih =>
    simp only [List.map_cons, List.any_cons, List.all_cons, Bool.not_and] at ih ⊢
    rw [ih (by simp [flatP])]
    cases p x <;> rfl
theorem eq_nilG {xs : List PV} (h : ∀ v ∈ xs, Gd v) : cmpP .Eq (.lst xs) (.lst []) = some xs.isEmpty := by
  have g : gP (.lst xs) 6 = true := by simp only [gP]; exact gPs_of fun v hv => gP_up (h v hv).1 (by omega)
  have d : hP (.lst xs) ≤ 60 := by
    have := hPs_of (n := 40) fun v hv => (h v hv).2
    simp only [hP]; omega
  simp only [cmpP, eq_p g d (w := .lst []) rfl (by decide) (.inl rfl), tP]
  cases xs with
  | nil => rfl
  | cons x xs => simp [tPs, PyData.eqv, PyData.eqvAll]
theorem two_at {xs : List PV} {p q : Int} {k : Nat} (h : xs.all (fun v => inR v p q) = true) (hk : k + 1 < xs.length) : ∃ a b : Int, atI xs (1 + (k : Int) - 1) = some (.int a) ∧ atI xs (1 + (k : Int)) = some (.int b) ∧ up xs k = decide (a < b) := by
  have all : ∀ v ∈ xs, ∃ i, v = .int i := fun v hv => by
    obtain ⟨i, e, _⟩ := inR_int (List.all_eq_true.mp h v hv)
    exact ⟨i, e⟩
  obtain ⟨a, ha⟩ := all xs[k] (List.getElem_mem _)
  obtain ⟨b, hb⟩ := all xs[k + 1] (List.getElem_mem _)
  have e1 : xs[k]? = some (.int a) := by rw [List.getElem?_eq_getElem (by omega), ha]
  have e2 : xs[k + 1]? = some (.int b) := by rw [List.getElem?_eq_getElem (by omega), hb]
  refine ⟨a, b, ?_, ?_, ?_⟩
  · rw [show 1 + (k : Int) - 1 = ((k : Nat) : Int) by omega, at_nat, e1]
  · rw [show 1 + (k : Int) = ((k + 1 : Nat) : Int) by omega, at_nat, e2]
  · unfold up; rw [e1, e2]
theorem rises_ok {Γ : Str → Option FP} {gl : Str → Option MV} {W d : Nat} {c : Nat → Cls} (g : Γ "_law_rises" = some p_x_rises) (Wi : ∀ c, Whole (cqOf Γ gl W d (c))) : Rises (cqOf Γ gl W (d + 1) (c)) := by
  refine ⟨sig_eq g, fun v n hv hz => ?_⟩
  dsimp only
  rw [run_eq g rfl rfl]
  generalize hX : cqOf Γ gl W d (clOf [.sh, .sh, .sh, .sh]) = X
  have hx : X.cl = clOf [.sh, .sh, .sh, .sh] := by rw [← hX]
  have Wi : Whole X := by rw [← hX]; exact Wi _
  simp only [b_x_rises]
  cases v with
  | fro _ => simp [Gd, gP] at hv
  | lck => simp [Gd, gP] at hv
  | dct _ => simp [Gd, gP] at hv
  | int i => dsimp?! [hx, risB, show decide (Ty.tuple = Ty.int) = false from rfl]
  | bl b => dsimp?! [hx, risB, show decide (Ty.tuple = Ty.int) = false from rfl, show decide (Ty.tuple = Ty.bool) = false from rfl]
  | non => dsimp?! [hx, risB]
  | str s => dsimp?! [hx, risB, rd_any (v := .str s) rfl, show decide (Ty.tuple = Ty.str) = false from rfl]
  | lst s => dsimp?! [hx, risB, show decide (Ty.tuple = Ty.list) = false from rfl]
  | tup xs =>
    have lz := len_zPs (a := xs)
    simp only [zP] at hz
    dsimp?! [hx, show decide (Ty.tuple = Ty.tuple) = true from rfl, lm_le (show xs.length ≤ 1000000 by omega)]
    rw [compD_map (g := fun v => .bl (inR v 0 (n - 1)))]
    · have ia := in_bls (L := xs) (p := fun v => inR v 0 (n - 1))
      simp only [cp_in] at ia
      by_cases h : xs.all (fun v => inR v 0 (n - 1)) = true
      · rw [h] at ia
        have it := it_rng2' (n := xs.length) (m := 1) (by omega) (by decide)
        rw [show ((1 : Nat) : Int) = 1 from rfl] at it
        dsimp?! [hx, ia, it, lm_le (show xs.length - 1 ≤ 1000000 by omega)]
        rw [show rngIP 1 (xs.length - 1) = (List.range (xs.length - 1)).map fun k : Nat => .int (1 + (k : Int)) from rfl]
        rw [compD_of (g := fun k : Nat => if up xs k then none else some (.int (1 + (k : Int))))]
        · have en := eq_nilG (xs := (List.range (xs.length - 1)).filterMap fun k : Nat => if up xs k then none else some (.int (1 + (k : Int)))) fun v hv => by
            obtain ⟨k, hk, e⟩ := List.mem_filterMap.mp hv
            rw [List.mem_range] at hk
            split at e
            · cases e
            · cases e
              refine ⟨?_, by simp [hP]⟩
              simp only [gP, decide_eq_true_eq]
              omega
          have ea : ((List.range (xs.length - 1)).filterMap fun k : Nat => if up xs k then none else some (PV.int (1 + (k : Int)))).isEmpty = asc xs := by
            unfold asc
            generalize List.range (xs.length - 1) = L
            induction L with
            | nil => rfl
            | cons k L ih =>
              simp only [List.filterMap_cons, List.all_cons]
              cases up xs k
              · simp
              · simpa using ih
          rw [ea] at en
          dsimp?! [hx, en, risB, h]
        · intro k hk
          rw [List.mem_range] at hk
          obtain ⟨a, b, e1, e2, e3⟩ := two_at h (show k + 1 < xs.length by omega)
          dsimp?! [hx, e1, e2, e3]
          by_cases c : a < b
          · have c2 : ¬ b ≤ a := by omega
            dsimp?! [hx, c, c2]
            exact .ok ⟨rfl, rfl⟩
          · have c2 : b ≤ a := by omega
            dsimp?! [hx, c, c2]
            exact .ok ⟨rfl, rfl⟩
      · have h' : xs.all (fun v => inR v 0 (n - 1)) = false := by simpa using h
        rw [h'] at ia
        dsimp?! [hx, ia, risB, h', Bool.false_and]
    · intro v hv'
      have pv : plain v = true := (hv.tup v hv').plain
      dsimp?! [hx, Wi.sig, Wi.call v 0 (n - 1) pv, rd_any (plain_lk pv)]
      exact .ok ⟨rfl, rfl⟩
/-! the program's own look -/
structure Are (X : CQ) : Prop where
  sig : X.sig "are_rising" = some ([.pl, .pl], false)
  call : ∀ v (n : Int), Gd v → zP v ≤ 1000000 → X.call "are_rising" [.int n, v] = .ok (.val (.bl (risB n v))) [.int n, v]
def b_are_rising : List MS := [
  .ite (.or_ (.not_ (.isi (.var 1) .tuple)) (.not_ (.blt .all [.lc (.and_ (.call "is_whole" [.var 2]) (.chain .LtE .Lt (.c (.int 0)) (.var 2) (.var 0))) (.nm 2) .val (.var 1) (.c .non) [] [2]]))) [
    .ret (.c (.bl false))] [],
  .ret (.blt .all [.lc (.cmp .Lt (.ix (.var 1) (.bin .Sub (.var 3) (.c (.int 1)))) (.ix (.var 1) (.var 3))) (.nm 3) .rng2 (.c (.int 1)) (.blt .len [.var 1]) [] [3]])]
def p_are_rising : FP := ⟨2, 4, b_are_rising, [.sh, .sh, .sh, .sh], [.pl, .pl], false⟩
theorem are_ok {Γ : Str → Option FP} {gl : Str → Option MV} {W d : Nat} {c : Nat → Cls} (g : Γ "are_rising" = some p_are_rising) (Wi : ∀ c, IsW (cqOf Γ gl W d (c))) : Are (cqOf Γ gl W (d + 1) (c)) := by
  refine ⟨sig_eq g, fun v n hv hz => ?_⟩
  dsimp only
  rw [run_eq g rfl rfl]
  generalize hX : cqOf Γ gl W d (clOf [.sh, .sh, .sh, .sh]) = X
  have hx : X.cl = clOf [.sh, .sh, .sh, .sh] := by rw [← hX]
  have Wi : IsW X := by rw [← hX]; exact Wi _
  simp only [b_are_rising]
  cases v with
  | fro _ => simp [Gd, gP] at hv
  | lck => simp [Gd, gP] at hv
  | dct _ => simp [Gd, gP] at hv
  | int i => dsimp?! [hx, risB, show decide (Ty.tuple = Ty.int) = false from rfl]
  | bl b => dsimp?! [hx, risB, show decide (Ty.tuple = Ty.int) = false from rfl, show decide (Ty.tuple = Ty.bool) = false from rfl]
  | non => dsimp?! [hx, risB]
  | str s => dsimp?! [hx, risB, rd_any (v := .str s) rfl, show decide (Ty.tuple = Ty.str) = false from rfl]
  | lst s => dsimp?! [hx, risB, show decide (Ty.tuple = Ty.list) = false from rfl]
  | tup xs =>
    have lz := len_zPs (a := xs)
    simp only [zP] at hz
    dsimp?! [hx, show decide (Ty.tuple = Ty.tuple) = true from rfl, lm_le (show xs.length ≤ 1000000 by omega)]
    rw [compD_map (g := fun v => .bl (inR v 0 (n - 1)))]
    · have ia := all_map (L := xs) (p := fun v => inR v 0 (n - 1))
      by_cases h : xs.all (fun v => inR v 0 (n - 1)) = true
      · rw [h] at ia
        have it := it_rng2' (n := xs.length) (m := 1) (by omega) (by decide)
        rw [show ((1 : Nat) : Int) = 1 from rfl] at it
        dsimp?! [hx, ia, it, lm_le (show xs.length - 1 ≤ 1000000 by omega)]
        rw [show rngIP 1 (xs.length - 1) = (List.range (xs.length - 1)).map fun k : Nat => .int (1 + (k : Int)) from rfl]
        rw [compD_of (g := fun k : Nat => some (.bl (up xs k)))]
        · have em : (List.range (xs.length - 1)).filterMap (fun k : Nat => some (PV.bl (up xs k))) = (List.range (xs.length - 1)).map fun k : Nat => PV.bl (up xs k) := by rw [← List.filterMap_eq_map]; rfl
          rw [em]
          have ea := all_map (L := List.range (xs.length - 1)) (p := fun k => up xs k)
          dsimp?! [hx, Function.comp_def, ea, risB, h]
          rfl
        · intro k hk
          rw [List.mem_range] at hk
          obtain ⟨a, b, e1, e2, e3⟩ := two_at h (show k + 1 < xs.length by omega)
          dsimp?! [hx, e1, e2, e3]
          exact .ok ⟨rfl, rfl⟩
      · have h' : xs.all (fun v => inR v 0 (n - 1)) = false := by simpa using h
        rw [h'] at ia
        dsimp?! [hx, ia, risB, h', Bool.false_and]
    · intro v hv'
      have pv : plain v = true := (hv.tup v hv').plain
      have lk := plain_lk pv
      cases v with
      | int i =>
        by_cases c1 : (0 : Int) ≤ i
        · dsimp?! [hx, Wi.sig, Wi.call _ pv, isW, c1]
          refine .ok ⟨?_, rfl⟩
          simp only [inR, c1, decide_true, Bool.true_and]
          congr 2
          exact decide_eq_decide.mpr (by omega)
        · dsimp?! [hx, Wi.sig, Wi.call _ pv, isW, c1]
          refine .ok ⟨?_, rfl⟩
          simp [inR, c1]
      | fro _ => cases pv
      | lck => cases pv
      | bl b => dsimp?! [hx, Wi.sig, Wi.call _ pv, isW, inR]; exact .ok ⟨rfl, rfl⟩
      | non => dsimp?! [hx, Wi.sig, Wi.call _ pv, isW, inR]; exact .ok ⟨rfl, rfl⟩
      | str s => dsimp?! [hx, Wi.sig, Wi.call _ pv, isW, inR, rd_any (v := .str s) rfl]; exact .ok ⟨rfl, rfl⟩
      | tup s => dsimp?! [hx, Wi.sig, Wi.call _ pv, isW, inR]; exact .ok ⟨rfl, rfl⟩
      | lst s => dsimp?! [hx, Wi.sig, Wi.call _ pv, isW, inR]; exact .ok ⟨rfl, rfl⟩
      | dct s => dsimp?! [hx, Wi.sig, Wi.call _ pv, isW, inR, rd_any (v := .dct s) rfl]; exact .ok ⟨rfl, rfl⟩
end GA
end Mn

set_option autoImplicit false
set_option maxHeartbeats 1000000
/-! GBB: things bent more than once (k01). -/
namespace Mn
namespace GA
open PySem L2
mutual
/-- plain: lists within lists at most n deep, ints below b -/
def gB (b : Nat) : PV → Nat → Bool
  | .non, _ => true
  | .bl _, _ => true
  | .int i, _ => decide (i.natAbs < b)
  | .str x, _ => PyData.strOk x
  | .tup xs, n => gBs b xs n
  | .lst xs, n => match n with
    | 0 => false
    | n + 1 => gBs b xs n
  | .fro _, _ => false
  | .dct _, _ => false
  | .lck, _ => false
def gBs (b : Nat) : List PV → Nat → Bool
  | [], _ => true
  | x :: xs, n => gB b x n && gBs b xs n
end
mutual
theorem gB_up {b b' : Nat} (hb : b ≤ b') : ∀ {v : PV} {n m : Nat}, gB b v n = true → n ≤ m → gB b' v m = true
  | .non, _, _, _, _ => rfl
  | .bl _, _, _, _, _ => rfl
  | .int i, _, _, e, _ => by simp only [gB, decide_eq_true_eq] at e ⊢; omega
  | .str x, _, _, e, _ => by simpa [gB] using e
  | .tup xs, n, m, e, l => by simp only [gB] at e ⊢; exact gBs_up hb e l
  | .lst xs, n, m, e, l => by
    cases n with
    | zero => simp [gB] at e
    | succ n =>
      cases m with
      | zero => omega
      | succ m => simp only [gB] at e ⊢; exact gBs_up hb e (by omega)
  | .fro _, _, _, e, _ => by simp [gB] at e
  | .dct _, _, _, e, _ => by simp [gB] at e
  | .lck, _, _, e, _ => by simp [gB] at e
theorem gBs_up {b b' : Nat} (hb : b ≤ b') : ∀ {v : List PV} {n m : Nat}, gBs b v n = true → n ≤ m → gBs b' v m = true
  | [], _, _, _, _ => rfl
  | x :: xs, n, m, e, l => by
    simp only [gBs, Bool.and_eq_true] at e ⊢
    exact ⟨gB_up hb e.1 l, gBs_up hb e.2 l⟩
end
mutual
theorem gB_gP {b : Nat} (hb : b ≤ 10 ^ 45) : ∀ {v : PV} {n : Nat}, gB b v n = true → gP v n = true
  | .non, _, _ => rfl
  | .bl _, _, _ => rfl
  | .int i, _, e => by simp only [gB, gP, decide_eq_true_eq] at e ⊢; omega
  | .str x, _, e => by simpa [gB, gP] using e
  | .tup xs, n, e => by simp only [gB, gP] at e ⊢; exact gBs_gP hb e
  | .lst xs, n, e => by
    cases n with
    | zero => simp [gB] at e
    | succ n => simp only [gB, gP] at e ⊢; exact gBs_gP hb e
  | .fro _, _, e => by simp [gB] at e
  | .dct _, _, e => by simp [gB] at e
  | .lck, _, e => by simp [gB] at e
theorem gBs_gP {b : Nat} (hb : b ≤ 10 ^ 45) : ∀ {v : List PV} {n : Nat}, gBs b v n = true → gPs v n = true
  | [], _, _ => rfl
  | x :: xs, n, e => by
    simp only [gBs, gPs, Bool.and_eq_true] at e ⊢
    exact ⟨gB_gP hb e.1, gBs_gP hb e.2⟩
end
theorem gBs_mem {b : Nat} {xs : List PV} {n : Nat} (h : gBs b xs n = true) {v : PV} (hv : v ∈ xs) : gB b v n = true := by
  induction xs with
  | nil => cases hv
  | cons x xs ih =>
    simp only [gBs, Bool.and_eq_true] at h
    rcases List.mem_cons.mp hv with rfl | q
    · exact h.1
    · exact ih h.2 q
theorem gBs_of {b : Nat} {xs : List PV} {n : Nat} (h : ∀ v ∈ xs, gB b v n = true) : gBs b xs n = true := by
  induction xs with
  | nil => rfl
  | cons x xs ih => simp only [gBs, Bool.and_eq_true]; exact ⟨h x (List.mem_cons_self ..), ih fun v hv => h v (List.mem_cons_of_mem _ hv)⟩
theorem gBs_sub {b n : Nat} {xs ys : List PV} (h : gBs b xs n = true) (s : ∀ v ∈ ys, v ∈ xs) : gBs b ys n = true := gBs_of fun v hv => gBs_mem h (s v hv)
theorem gBs_app {k n : Nat} : ∀ {a b : List PV}, gBs k (a ++ b) n = (gBs k a n && gBs k b n)
  | [], b => by simp [gBs]
  | x :: a, b => by simp [gBs, gBs_app (a := a), Bool.and_assoc]
/-! odd things -/
structure OddB (X : CQ) : Prop where
  sig : X.sig "_law_odd" = some ([.io], false)
  call : ∀ T v, Fd T v → T < line → ∃ w v', X.call "_law_odd" [v] = .ok (.val w) [v'] ∧ gB (10 ^ 39 + 1) w 1 = true ∧ hP w ≤ 1 ∧ zP w ≤ 200 ∧ Fd (T + 1) v'
theorem oddB_ok {Γ : Str → Option FP} {gl : Str → Option MV} {W d : Nat} {c : Nat → Cls} (g : Γ "_law_odd" = some p_x_odd) (D : ∀ c, Draw (cqOf Γ gl W d (c))) : OddB (cqOf Γ gl W (d + 1) (c)) := by
  refine ⟨sig_eq g, fun T v hv hT => ?_⟩
  dsimp only
  rw [run_eq g rfl rfl]
  generalize hX : cqOf Γ gl W d (clOf [.io, .sh]) = X
  have hx : X.cl = clOf [.io, .sh] := by rw [← hX]
  have D : Draw X := by rw [← hX]; exact D _
  obtain ⟨r, u, e, r0, r1, hu⟩ := D.call T v 18 hv hT (by decide) (by decide)
  have p39 : binP .Pow (.int 10) (.int 39) = some (.val (.int (10 ^ 39))) := bp_pow (by decide)
  obtain ⟨w, hw, ew⟩ := pick (l := [.non, .bl true, .bl false, .int 0, .int 1, .int 2, .int (-1), .int 60, .int 61, .int (10 ^ 39), .str "", .str "way", .str "-", .tup [], .lst [], .tup [.int 0], .tup [.int 0, .int 1], .lst [.int 0, .int 1]]) r0 (by simpa using r1)
  simp only [b_x_odd]
  dsimp?! [hx, D.sig, rd_any hv.lk, rd_any hu.lk, e, p39, ew, hu.lk]
  refine ⟨w, u, rfl, ?_, ?_, ?_, hu⟩
  all_goals
    simp only [List.mem_cons, List.mem_nil_iff, or_false] at hw
    rcases hw with rfl | rfl | rfl | rfl | rfl | rfl | rfl | rfl | rfl | rfl | rfl | rfl | rfl | rfl | rfl | rfl | rfl | rfl <;> first | decide | exact str_ok _
/-! things bent -/
structure BentB (X : CQ) (k n b : Nat) : Prop where
  sig : X.sig "_law_bent" = some ([.io, .pl], false)
  call : ∀ T v t, Fd T v → T + 100 + 10 * k < line → gB b t n = true → zP t ≤ 100000 → hP t ≤ k → ∃ w v', X.call "_law_bent" [v, t] = .ok (.val w) [v', t] ∧ gB (b + 1) w (n + 1) = true ∧ hP w ≤ hP t + 2 ∧ zP w ≤ 2 * zP t + 1000 ∧ Fd (T + 10 * k + 10) v'
/-- behind the way inwards -/
theorem bentB_2 {n b : Nat} (b1 : 10 ^ 39 < b) (b2 : b < 10 ^ 44) (n6 : n ≤ 4) {X : CQ} (hx : X.cl = clOf bcl) (D : Draw X) (O : OddB X) {T : Nat} {v t : PV} (hv : Fd T v) (hT : T + 10 < line) (ht : gB b t n = true) (hz : zP t ≤ 100000) :
    Evq (evTs' X (b_x_bent.drop 1) [some v, some t, none, none, none]) fun fl σ => ∃ w v' x2 x3 x4, fl = .ret (.val w) ∧ σ = [some v', some t, x2, x3, x4] ∧ gB (b + 1) w (n + 1) = true ∧ hP w ≤ hP t + 2 ∧ zP w ≤ 2 * zP t + 1000 ∧ Fd (T + 3) v' := by
  simp only [b_x_bent, List.drop_succ_cons, List.drop_zero]
  obtain ⟨way, v1, e1, a1, b1, hv1⟩ := D.call T v 7 hv (by omega) (by decide) (by decide)
  obtain ⟨ow, v2, e2, g2, h2, z2, hv2⟩ := O.call _ v1 hv1 (by omega)
  have og : gB (b + 1) ow (n + 1) = true := gB_up (by omega) g2 (by omega)
  cases t with
  | fro _ => simp [gB] at ht
  | lck => simp [gB] at ht
  | dct _ => simp [gB] at ht
  | lst s =>
    dsimp?! [hx, bcl, D.sig, O.sig, rd_any hv.lk, rd_any hv1.lk, rd_any hv2.lk, e1, e2, show decide (Ty.tuple = Ty.list) = false from rfl, show decide (Ty.int = Ty.list) = false from rfl]
    exact .ok ⟨ow, v2, none, _, none, rfl, rfl, og, by omega, by omega, hv2.mono (by omega)⟩
  | non =>
    dsimp?! [hx, bcl, D.sig, O.sig, rd_any hv.lk, rd_any hv1.lk, rd_any hv2.lk, e1, e2]
    exact .ok ⟨ow, v2, none, _, none, rfl, rfl, og, by omega, by omega, hv2.mono (by omega)⟩
  | bl q =>
    dsimp?! [hx, bcl, D.sig, O.sig, rd_any hv.lk, rd_any hv1.lk, rd_any hv2.lk, e1, e2, show decide (Ty.tuple = Ty.int) = false from rfl, show decide (Ty.tuple = Ty.bool) = false from rfl, show decide (Ty.int = Ty.int) = true from rfl, show decide (Ty.bool = Ty.bool) = true from rfl, show decide (Ty.bool = Ty.int) = false from rfl]
    exact .ok ⟨ow, v2, none, _, none, rfl, rfl, og, by omega, by omega, hv2.mono (by omega)⟩
  | str s =>
    dsimp?! [hx, bcl, D.sig, O.sig, rd_any hv.lk, rd_any hv1.lk, rd_any hv2.lk, e1, e2, rd_any (v := .str s) rfl, show decide (Ty.tuple = Ty.str) = false from rfl, show decide (Ty.int = Ty.str) = false from rfl]
    exact .ok ⟨ow, v2, none, _, none, rfl, rfl, og, by omega, by omega, hv2.mono (by omega)⟩
  | int i =>
    simp only [gB, decide_eq_true_eq] at ht
    by_cases c : way < 5
    · obtain ⟨t1, t2, t3⟩ := txt_ok (i := i) (by omega)
      obtain ⟨w, hw, ew⟩ := pick (l := [.int (i + 1), .int (i - 1), .int (-i), .bl (i == 1), .str (Str.ofString (toString i))]) a1 (by simpa using c)
      dsimp?! [hx, bcl, D.sig, O.sig, rd_any hv.lk, rd_any hv1.lk, rd_any hv2.lk, e1, e2, c, t1, ew, show decide (Ty.tuple = Ty.int) = false from rfl, show decide (Ty.int = Ty.int) = true from rfl, show decide (Ty.bool = Ty.int) = false from rfl]
      refine .ok ⟨w, v1, none, _, none, rfl, rfl, ?_, ?_, ?_, hv1.mono (by omega)⟩
      all_goals
        simp only [List.mem_cons, List.mem_nil_iff, or_false] at hw
        rcases hw with rfl | rfl | rfl | rfl | rfl <;> simp only [gB, gBs, hP, hPs, zP, zPs, t2, decide_eq_true_eq, Bool.and_true] <;> (try omega)
    · dsimp?! [hx, bcl, D.sig, O.sig, rd_any hv.lk, rd_any hv1.lk, rd_any hv2.lk, e1, e2, c, show decide (Ty.tuple = Ty.int) = false from rfl, show decide (Ty.int = Ty.int) = true from rfl, show decide (Ty.bool = Ty.int) = false from rfl]
      exact .ok ⟨ow, v2, none, _, none, rfl, rfl, og, by omega, by omega, hv2.mono (by omega)⟩
  | tup xs =>
    have gx : gBs b xs n = true := by simpa [gB] using ht
    have lz := len_zPs (a := xs)
    simp only [zP] at hz
    by_cases c : way < 5
    · obtain ⟨at', v3, e3, a3, b3, hv3⟩ := D.call _ v1 ((xs.length : Int) + 1) hv1 (by omega) (by omega) (by omega)
      obtain ⟨j, rfl⟩ : ∃ j : Nat, at' = (j : Int) := ⟨at'.toNat, by omega⟩
      obtain ⟨ow, v4, e4, g4, h4, z4, hv4⟩ := O.call _ v3 hv3 (by omega)
      have ej : (j : Int) + 1 = ((j + 1 : Nat) : Int) := by omega
      have l1 : (xs.take j).length + (xs.drop (j + 1)).length ≤ lineM := by simp [lineM]; omega
      have l2 : (xs.take (j + 1)).length + (xs.drop j).length ≤ lineM := by simp [lineM]; omega
      have l4 : xs.length + ([ow] : List PV).length ≤ lineM := by simp [lineM]; omega
      have l5 : ([.lst xs, .tup (xs.take j ++ xs.drop (j + 1)), .tup (xs.take (j + 1) ++ xs.drop j), .tup xs.reverse] : List PV).length + ([.tup (xs ++ [ow])] : List PV).length ≤ lineM := by simp [lineM]
      obtain ⟨w, hw, ew⟩ := pick (l := [.lst xs, .tup (xs.take j ++ xs.drop (j + 1)), .tup (xs.take (j + 1) ++ xs.drop j), .tup xs.reverse] ++ [.tup (xs ++ [ow])]) a1 (by simpa using c)
      simp only [List.cons_append, List.nil_append] at ew
      have lo : isLk ow = false := plain_lk (gP_plain (gB_gP (by omega) g4))
      have g4' : gB (b + 1) ow (n + 1) = true := gB_up (by omega) g4 (by omega)
      dsimp?! [hx, bcl, D.sig, O.sig, rd_any hv.lk, rd_any hv1.lk, rd_any hv3.lk, rd_any hv4.lk, e1, e3, e4, c, show decide (Ty.tuple = Ty.tuple) = true from rfl, sp_h, ej, sp_l, bp_addT l1, bp_addT l2, bp_addT l4, bp_addL l5, ew]
      refine .ok ⟨w, v4, _, _, _, rfl, rfl, ?_, ?_, ?_, hv4.mono (by omega)⟩
      all_goals
        have s1 : ∀ v ∈ xs.take j ++ xs.drop (j + 1), v ∈ xs := fun v hv => by
          rcases List.mem_append.mp hv with q | q
          · exact List.mem_of_mem_take q
          · exact List.mem_of_mem_drop q
        have s2 : ∀ v ∈ xs.take (j + 1) ++ xs.drop j, v ∈ xs := fun v hv => by
          rcases List.mem_append.mp hv with q | q
          · exact List.mem_of_mem_take q
          · exact List.mem_of_mem_drop q
        have z1 := zPs_split (a := xs) (k := j)
        have z2 := zPs_split (a := xs) (k := j + 1)
        have q1 := hPs_sub (Nat.le_refl (hPs xs)) s1
        have q2 := hPs_sub (Nat.le_refl (hPs xs)) s2
        have g0 : gBs (b + 1) xs (n + 1) = true := gBs_up (by omega) gx (by omega)
        have g00 : gBs (b + 1) xs n = true := gBs_up (by omega) gx (by omega)
        have r1 : ∀ v ∈ xs.reverse, v ∈ xs := fun v hv => by simpa using hv
        have q3 := hPs_sub (Nat.le_refl (hPs xs)) r1
        simp only [List.cons_append, List.nil_append, List.mem_cons, List.mem_nil_iff, or_false] at hw
        rcases hw with rfl | rfl | rfl | rfl | rfl
        all_goals first
          | (simp only [gB]; exact g00)
          | (simp only [gB]; exact gBs_sub g0 s1)
          | (simp only [gB]; exact gBs_sub g0 s2)
          | (simp only [gB]; exact gBs_sub g0 r1)
          | (simp only [gB, gBs_app, g0, gBs, g4']; rfl)
          | (simp only [hP, hPs_app, hPs] at q1 q2 q3 ⊢; omega)
          | (simp only [zP, zPs_app, zPs, zPs_rev]; omega)
    · dsimp?! [hx, bcl, D.sig, O.sig, rd_any hv.lk, rd_any hv1.lk, rd_any hv2.lk, e1, e2, c, show decide (Ty.tuple = Ty.tuple) = true from rfl, show decide (Ty.int = Ty.tuple) = false from rfl]
      exact .ok ⟨ow, v2, none, _, none, rfl, rfl, og, by omega, by omega, hv2.mono (by omega)⟩
theorem bentB_body {n b : Nat} (b1 : 10 ^ 39 < b) (b2 : b < 10 ^ 44) (n6 : n ≤ 4) {X : CQ} (hx : X.cl = clOf bcl) (D : Draw X) (O : OddB X) {k : Nat} (k50 : k ≤ 50) (B : ∀ j, k = j + 1 → BentB X j n b) {T : Nat} {v t : PV} (hv : Fd T v) (hT : T + 100 + 10 * k < line) (ht : gB b t n = true) (hz : zP t ≤ 100000) (hk : hP t ≤ k) :
    Evo (finQ [.io, .pl] false [v, t] (evTs' X b_x_bent [some v, some t, none, none, none])) fun o ios => ∃ w v', o = .val w ∧ ios = [v', t] ∧ gB (b + 1) w (n + 1) = true ∧ hP w ≤ hP t + 2 ∧ zP w ≤ 2 * zP t + 1000 ∧ Fd (T + 10 * k + 10) v' := by
  refine finQ_ev ?_
  have two : ∀ (T' : Nat) (u : PV), Fd T' u → T' ≤ T + 5 → Evq (evTs' X (b_x_bent.drop 1) [some u, some t, none, none, none]) (RP [.io, .pl] false [v, t] fun o ios => ∃ w v', o = .val w ∧ ios = [v', t] ∧ gB (b + 1) w (n + 1) = true ∧ hP w ≤ hP t + 2 ∧ zP w ≤ 2 * zP t + 1000 ∧ Fd (T + 10 * k + 10) v') := by
    intro T' u hu hT'
    refine (bentB_2 b1 b2 n6 hx D O hu (by omega) ht hz).imp ?_
    rintro fl σ ⟨w, v', x2, x3, x4, rfl, rfl, h1, h2, h3, h4⟩
    refine .ret ?_
    dsimp?! [h4.lk]
    exact .ok ⟨w, v', rfl, rfl, h1, h2, h3, h4.mono (by omega)⟩
  rw [tk 1, show b_x_bent.take 1 = [.ite (.and_ (.isi (.var 1) .tuple) (.and_ (.cmp .NotEq (.var 1) (.tup [])) (.cmp .Gt (.call "_law_draw" [.var 0, .c (.int 6)]) (.c (.int 0))))) [
    .asg (.nm 2) (.call "_law_draw" [.var 0, .blt .len [.var 1]]),
    .ret (.bin .Add (.bin .Add (.slH (.var 1) (.var 2)) (.tup [.call "_law_bent" [.var 0, .ix (.var 1) (.var 2)]])) (.slL (.var 1) (.bin .Add (.var 2) (.c (.int 1)))))] []] from rfl]
  cases t with
  | fro _ => simp [gB] at ht
  | lck => simp [gB] at ht
  | dct _ => simp [gB] at ht
  | lst s =>
    dsimp?! [hx, bcl, show decide (Ty.tuple = Ty.list) = false from rfl]
    exact two _ v hv (by omega)
  | non =>
    dsimp?! [hx, bcl]
    exact two _ v hv (by omega)
  | bl q =>
    dsimp?! [hx, bcl, show decide (Ty.tuple = Ty.int) = false from rfl, show decide (Ty.tuple = Ty.bool) = false from rfl]
    exact two _ v hv (by omega)
  | str s =>
    dsimp?! [hx, bcl, rd_any (v := .str s) rfl, show decide (Ty.tuple = Ty.str) = false from rfl]
    exact two _ v hv (by omega)
  | int i =>
    dsimp?! [hx, bcl, show decide (Ty.tuple = Ty.int) = false from rfl]
    exact two _ v hv (by omega)
  | tup xs =>
    have gx : gBs b xs n = true := by simpa [gB] using ht
    have lz := len_zPs (a := xs)
    have hk0 := hk
    have hz0 := hz
    simp only [zP] at hz
    simp only [hP] at hk
    have ene : cmpP .NotEq (.tup xs) (.tup []) = some (!xs.isEmpty) := by
      have g : gP (.tup xs) 6 = true := by simp only [gP]; exact gPs_up (gBs_gP (by omega) gx) (by omega)
      simp only [cmpP, eq_p g (by omega) (w := .tup []) rfl (by decide) (.inl rfl), Option.map_some, tP]
      cases xs with
      | nil => rfl
      | cons x xs => simp [tPs, PyData.eqv, PyData.eqvAll]
    by_cases ce : xs = []
    · subst ce
      simp only [List.isEmpty_nil, Bool.not_true] at ene
      dsimp?! [hx, bcl, show decide (Ty.tuple = Ty.tuple) = true from rfl, ene]
      exact two _ v hv (by omega)
    · have cf : xs.isEmpty = false := by simpa using ce
      rw [cf] at ene
      have lp : 0 < xs.length := List.length_pos_iff.mpr ce
      obtain ⟨r, v1, e1, a1, b1, hv1⟩ := D.call T v 6 hv (by omega) (by decide) (by decide)
      by_cases c : 0 < r
      · obtain ⟨at', v2, e2, a2, b2, hv2⟩ := D.call _ v1 (xs.length : Int) hv1 (by omega) (by omega) (by omega)
        obtain ⟨j, rfl⟩ : ∃ j : Nat, at' = (j : Int) := ⟨at'.toNat, by omega⟩
        have hj : j < xs.length := by omega
        obtain ⟨k', rfl⟩ : ∃ k', k = k' + 1 := ⟨k - 1, by omega⟩
        have B := B k' rfl
        have hm : xs[j] ∈ xs := List.getElem_mem hj
        have hzm := zPs_mem hm
        obtain ⟨w, v3, e3, g3, h3, z3, hv3⟩ := B.call _ v2 xs[j] hv2 (by omega) (gBs_mem gx hm) (by omega) (hPs_mem (by omega) hm)
        have ej : (j : Int) + 1 = ((j + 1 : Nat) : Int) := by omega
        have aj : atI xs (j : Int) = some xs[j] := by rw [at_nat, List.getElem?_eq_getElem hj]
        have lo : isLk w = false := plain_lk (gP_plain (gB_gP (by omega) g3))
        have lx : isLk xs[j] = false := plain_lk (gP_plain (gB_gP (by omega) (gBs_mem gx hm)))
        have l1 : (xs.take j).length + ([w] : List PV).length ≤ lineM := by simp [lineM]; omega
        have l2 : (xs.take j ++ [w]).length + (xs.drop (j + 1)).length ≤ lineM := by simp [lineM]; omega
        dsimp?! [hx, bcl, D.sig, B.sig, rd_any hv.lk, rd_any hv1.lk, rd_any hv2.lk, rd_any hv3.lk, e1, e2, e3, c, Bool.not_false, show decide (Ty.tuple = Ty.tuple) = true from rfl, ene, sp_h, ej, sp_l, aj, bp_addT l1, bp_addT l2]
        refine .ok (.ret ?_)
        dsimp?! [hv3.lk]
        refine .ok ⟨_, v3, rfl, rfl, ?_, ?_, ?_, hv3.mono (by omega)⟩
        · have t1 : gBs (b + 1) (xs.take j) (n + 1) = true := gBs_sub (gBs_up (by omega) gx (by omega)) fun v hv => List.mem_of_mem_take hv
          have t2 : gBs (b + 1) (xs.drop (j + 1)) (n + 1) = true := gBs_sub (gBs_up (by omega) gx (by omega)) fun v hv => List.mem_of_mem_drop hv
          simp only [gB, gBs_app, gBs, t1, t2, g3]
          rfl
        · have q1 := hPs_sub (Nat.le_refl (hPs xs)) (b := xs.take j) fun v hv => List.mem_of_mem_take hv
          have q2 := hPs_sub (Nat.le_refl (hPs xs)) (b := xs.drop (j + 1)) fun v hv => List.mem_of_mem_drop hv
          have q3 := hPs_mem (Nat.le_refl (hPs xs)) hm
          simp only [hP, hPs_app, hPs]
          omega
        · have z1 := zPs_split (a := xs) (k := j)
          have ed : xs.drop j = xs[j] :: xs.drop (j + 1) := by simp
          rw [ed] at z1
          simp only [zPs] at z1
          simp only [zP, zPs_app, zPs]
          omega
      · dsimp?! [hx, bcl, D.sig, rd_any hv.lk, rd_any hv1.lk, e1, c, Bool.not_false, show decide (Ty.tuple = Ty.tuple) = true from rfl, ene]
        exact two _ v1 hv1 (by omega)
theorem bentB_ok {n b : Nat} (b1 : 10 ^ 39 < b) (b2 : b < 10 ^ 44) (n6 : n ≤ 4) {Γ : Str → Option FP} {gl : Str → Option MV} {W : Nat} (g : Γ "_law_bent" = some p_x_bent) (D : ∀ d c, Draw (cqOf Γ gl W (d + 1) (c))) (O : ∀ d c, OddB (cqOf Γ gl W (d + 2) (c))) : ∀ (k d : Nat) (c : Nat → Cls), k + 3 ≤ d → k ≤ 50 → BentB (cqOf Γ gl W d (c)) k n b := by
  intro k
  induction k with
  | zero =>
    intro d c hd k50
    obtain ⟨d, rfl⟩ : ∃ e, d = e + 3 := ⟨d - 3, by omega⟩
    refine ⟨sig_eq g, fun T v t hv hT ht hz hk => ?_⟩
    dsimp only
    rw [run_eq g rfl rfl]
    obtain ⟨o, ios, e, w, v', rfl, rfl, q⟩ := bentB_body b1 b2 n6 (X := (cqOf Γ gl W (d + 2) (clOf [.io, .sh, .sh, .sh, .sh]))) rfl (D _ _) (O _ _) k50 (fun j z => by omega) hv hT ht hz hk
    exact ⟨w, v', e, q⟩
  | succ k ih =>
    intro d c hd k50
    obtain ⟨d, rfl⟩ : ∃ e, d = e + 3 := ⟨d - 3, by omega⟩
    refine ⟨sig_eq g, fun T v t hv hT ht hz hk => ?_⟩
    dsimp only
    rw [run_eq g rfl rfl]
    obtain ⟨o, ios, e, w, v', rfl, rfl, q⟩ := bentB_body b1 b2 n6 (X := (cqOf Γ gl W (d + 2) (clOf [.io, .sh, .sh, .sh, .sh]))) rfl (D _ _) (O _ _) k50 (fun j z => by
      obtain rfl : k = j := by omega
      exact ih (d + 2) _ (by omega) (by omega)) hv hT ht hz hk
    exact ⟨w, v', e, q⟩
end GA
end Mn

set_option autoImplicit false
set_option maxHeartbeats 1000000
/-! GD: what the laws k55 to k72 share. -/
namespace Mn
namespace GD
open PySem L2
/-- 0 _law_script -/
def b_x_feed : List MS := [
  .ret (.dsp [.c (.str "script"), .blt .list [.slH (.var 0) (.c (.int 63))], .c (.str "at"), .c (.int 0), .c (.str "left"), .c (.int 0), .c (.str "turn"), .c (.int 0)])]
def p_x_feed : FP := ⟨1, 1, b_x_feed, [.sh], [.pl], true⟩
/-- 0 _law_feed_here, 1 _law_many, 2 _law_found, 3 _law_cell, 4 _law_mixed -/
def b_x_draw : List MS := [
  .asgSub (.var 0) (.c (.str "turn")) (.bin .Add (.ix (.var 0) (.c (.str "turn"))) (.c (.int 1))),
  .ite (.cmp .Gt (.ix (.var 0) (.c (.str "left"))) (.c (.int 0))) [
    .asg (.nm 2) (.bin .Mod (.ix (.var 0) (.c (.str "left"))) (.var 1)),
    .asgSub (.var 0) (.c (.str "left")) (.bin .FloorDiv (.ix (.var 0) (.c (.str "left"))) (.var 1)),
    .ret (.var 2)] [],
  .asg (.nm 3) (.c (.int 0)),
  .ite (.cmp .NotEq (.ix (.var 0) (.c (.str "script"))) (.lst [])) [
    .asg (.nm 3) (.ix (.ix (.var 0) (.c (.str "script"))) (.bin .Mod (.ix (.var 0) (.c (.str "at"))) (.blt .len [.ix (.var 0) (.c (.str "script"))])))] [],
  .asgSub (.var 0) (.c (.str "at")) (.bin .Add (.ix (.var 0) (.c (.str "at"))) (.c (.int 1))),
  .ite (.and_ (.cmp .GtE (.var 3) (.bin .Pow (.c (.int 10)) (.c (.int 18)))) (.cmp .LtE (.ix (.var 0) (.c (.str "at"))) (.blt .len [.ix (.var 0) (.c (.str "script"))]))) [
    .asgSub (.var 0) (.c (.str "left")) (.bin .FloorDiv (.var 3) (.var 1)),
    .ret (.bin .Mod (.var 3) (.var 1))] [],
  .asg (.nm 4) (.bin .Mod (.bin .Mult (.bin .Add (.bin .Mod (.var 3) (.c (.int 2147483629))) (.bin .Mult (.c (.int 7919)) (.ix (.var 0) (.c (.str "turn"))))) (.c (.int 48271))) (.c (.int 2147483647))),
  .asg (.nm 4) (.bin .Mod (.bin .Mult (.bin .Add (.bin .FloorDiv (.var 4) (.c (.int 11))) (.bin .Mult (.c (.int 6007)) (.ix (.var 0) (.c (.str "turn"))))) (.c (.int 69621))) (.c (.int 2147483587))),
  .ret (.bin .Mod (.bin .FloorDiv (.var 4) (.c (.int 7))) (.var 1))]
def p_x_draw : FP := ⟨2, 5, b_x_draw, [.io, .sh, .sh, .sh, .sh], [.io, .pl], false⟩
/-- 0 _law_feed_here, 1 _law_some, 2 _law_left, 3 _law_found, 4 _law_k -/
def b_x_shuffled : List MS := [
  .asg (.nm 2) (.blt .list [.var 1]),
  .asg (.nm 3) (.lst []),
  .for_ (.nm 4) .rng1 (.blt .len [.var 2]) (.c .non) [
    .expr (.meth .append (.var 3) [.meth .pop (.var 2) [.call "_law_draw" [.var 0, .blt .len [.var 2]]]])],
  .ret (.var 3)]
def p_x_shuffled : FP := ⟨2, 5, b_x_shuffled, [.io, .br, .ow, .ow, .sh], [.io, .br], false⟩
/-- 0 _law_feed_here, 1 _law_most, 2 _law_ties, 3 _law_many, 4 _law_found, 5 _law_line, 6 _law_k, 7 _law_a, 8 _law_b -/
def b_x_oneway : List MS := [
  .asg (.nm 3) (.bin .Add (.c (.int 1)) (.call "_law_draw" [.var 0, .var 1])),
  .asg (.nm 4) (.lst []),
  .ite (.and_ (.cmp .Gt (.var 3) (.c (.int 1))) (.cmp .Eq (.call "_law_draw" [.var 0, .c (.int 2)]) (.c (.int 0)))) [
    .asg (.nm 5) (.call "_law_shuffled" [.var 0, .rngL (.c (.int 0)) (.var 3)]),
    .asg (.nm 4) (.lc (.tup [.ix (.var 5) (.var 6), .ix (.var 5) (.bin .Mod (.bin .Add (.var 6) (.c (.int 1))) (.var 3)), .call "_law_draw" [.var 0, .c (.int 6)]]) (.nm 6) .rng1 (.var 3) (.c .non) [] [6])] [],
  .for_ (.nm 6) .rng1 (.bin .Mult (.call "_law_draw" [.var 0, .bin .Sub (.bin .Add (.c (.int 1)) (.var 2)) (.blt .len [.var 4])]) (.blt .int [.cmp .Gt (.var 3) (.c (.int 1))])) (.c .non) [
    .asg (.nm 7) (.call "_law_draw" [.var 0, .var 3]),
    .asg (.nm 8) (.bin .Mod (.bin .Add (.bin .Add (.var 7) (.c (.int 1))) (.call "_law_draw" [.var 0, .bin .Sub (.var 3) (.c (.int 1))])) (.var 3)),
    .expr (.meth .append (.var 4) [.tup [.var 7, .var 8, .ix (.lst [.c (.int 0), .c (.int 1), .c (.int 1), .c (.int 2), .c (.int 3), .c (.int 99), .call "_law_draw" [.var 0, .c (.int 100)]]) (.call "_law_draw" [.var 0, .c (.int 7)])]]),
    .ite (.cmp .Eq (.call "_law_draw" [.var 0, .c (.int 6)]) (.c (.int 0))) [
      .asgSub (.var 4) (.bin .Sub (.blt .len [.var 4]) (.c (.int 1))) (.ix (.var 4) (.call "_law_draw" [.var 0, .blt .len [.var 4]]))] []],
  .ret (.tup [.var 3, .blt .tuple [.call "_law_shuffled" [.var 0, .var 4]]])]
def p_x_oneway : FP := ⟨3, 9, b_x_oneway, [.io, .sh, .sh, .sh, .ow, .sh, .sh, .sh, .sh], [.io, .pl, .pl], false⟩
abbrev kS : Key := .inr "script"
abbrev kA : Key := .inr "at"
abbrev kL : Key := .inr "left"
abbrev kT : Key := .inr "turn"
theorem nSA : ¬ kS = kA := by decide
theorem nSL : ¬ kS = kL := by decide
theorem nST : ¬ kS = kT := by decide
theorem nAS : ¬ kA = kS := by decide
theorem nAL : ¬ kA = kL := by decide
theorem nAT : ¬ kA = kT := by decide
theorem nLS : ¬ kL = kS := by decide
theorem nLA : ¬ kL = kA := by decide
theorem nLT : ¬ kL = kT := by decide
theorem nTS : ¬ kT = kS := by decide
theorem nTA : ¬ kT = kA := by decide
theorem nTL : ¬ kT = kL := by decide
def fdK (cells : List Int) (a l t : Int) : List (Key × PV) := [(kS, .lst (cells.map .int)), (kA, .int a), (kL, .int l), (kT, .int t)]
def fdD (cells : List Int) (a l t : Int) : PV := .dct (fdK cells a l t)
section
variable {cells : List Int} {a l t x : Int} {v : PV}
theorem ixS : ixP (fdD cells a l t) (.str "script") = some (.lst (cells.map .int)) := by
  have e : keyOfP (.str "script") = some kS := rfl
  simp only [fdD, ixP, e, Option.bind_some, getKP, fdK, List.find?_cons, decide_true, Option.map_some]
theorem ixA : ixP (fdD cells a l t) (.str "at") = some (.int a) := by
  have e : keyOfP (.str "at") = some kA := rfl
  simp only [fdD, ixP, e, Option.bind_some, getKP, fdK, List.find?_cons, nSA, decide_false, decide_true, Option.map_some]
theorem ixL : ixP (fdD cells a l t) (.str "left") = some (.int l) := by
  have e : keyOfP (.str "left") = some kL := rfl
  simp only [fdD, ixP, e, Option.bind_some, getKP, fdK, List.find?_cons, nSL, nAL, decide_false, decide_true, Option.map_some]
theorem ixT : ixP (fdD cells a l t) (.str "turn") = some (.int t) := by
  have e : keyOfP (.str "turn") = some kT := rfl
  simp only [fdD, ixP, e, Option.bind_some, getKP, fdK, List.find?_cons, nST, nAT, nLT, decide_false, decide_true, Option.map_some]
theorem stA : setV (fdD cells a l t) (.str "at") (.int x) = some (fdD cells x l t) := by
  have e : keyOfP (.str "at") = some kA := rfl
  simp only [fdD, setV, e, Option.bind_some, putKP, fdK, List.any_cons, List.any_nil, List.map_cons, List.map_nil, nSA, nLA, nTA, decide_false, decide_true, Bool.false_or, Bool.true_or, if_true, if_false, List.length_cons, List.length_nil]
  rfl
theorem stL : setV (fdD cells a l t) (.str "left") (.int x) = some (fdD cells a x t) := by
  have e : keyOfP (.str "left") = some kL := rfl
  simp only [fdD, setV, e, Option.bind_some, putKP, fdK, List.any_cons, List.any_nil, List.map_cons, List.map_nil, nSL, nAL, nTL, decide_false, decide_true, Bool.false_or, Bool.true_or, if_true, if_false, List.length_cons, List.length_nil]
  rfl
theorem stT : setV (fdD cells a l t) (.str "turn") (.int x) = some (fdD cells a l x) := by
  have e : keyOfP (.str "turn") = some kT := rfl
  simp only [fdD, setV, e, Option.bind_some, putKP, fdK, List.any_cons, List.any_nil, List.map_cons, List.map_nil, nST, nAT, nLT, decide_false, decide_true, Bool.false_or, Bool.true_or, if_true, if_false, List.length_cons, List.length_nil]
  rfl
theorem rdF {σ : PS} : rdV (some (fdD cells a l t) :: σ) 0 = some (fdD cells a l t) := rfl
theorem ldF : isLD (fdD cells a l t) = true := rfl
theorem lkF : isLk (fdD cells a l t) = false := rfl
end
def Fd (v : PV) : Prop := ∃ cells a l t, v = fdD cells a l t ∧ 0 ≤ a ∧ 0 ≤ l ∧ cells.length ≤ 63
structure Draw (X : CQ) : Prop where
  sig : X.sig "_law_draw" = some ([.io, .pl], false)
  call : ∀ v (n : Int), Fd v → 1 ≤ n → n < 1073741824 → ∃ (r : Int) (v' : PV), X.call "_law_draw" [v, .int n] = .ok (.val (.int r)) [v', .int n] ∧ 0 ≤ r ∧ r < n ∧ Fd v'
theorem eq_ints {xs ys : List Int} : eqP (.lst (xs.map .int)) (.lst (ys.map .int)) = some (decide (xs = ys)) := by
  have t : ∀ zs : List Int, dPs (zs.map .int) 5 = some (zs.map .int) := by
    intro zs
    induction zs with
    | nil => rfl
    | cons z zs ih => simp only [List.map_cons, dPs, dP, ih]
  have l : ∀ zs : List Int, shp (.list (zs.map .int)) = true := by
    intro zs
    have : PyData.canLayAll0 (zs.map .int) = true ∧ PyData.depthAll (zs.map .int) = 0 := by
      induction zs with
      | nil => exact ⟨rfl, rfl⟩
      | cons z zs ih => simp [PyData.canLayAll0, PyData.canLay0, PyData.depthAll, PyData.depth, ih]
    simp [shp, SeqAt.shaped, PyData.canLay0, PyData.depth, this]
  have e : ∀ xs ys : List Int, PyData.eqvAll (xs.map .int) (ys.map .int) = decide (xs = ys) := by
    intro xs
    induction xs with
    | nil => intro ys; cases ys <;> simp [PyData.eqvAll]
    | cons x xs ih => intro ys; cases ys with
      | nil => simp [PyData.eqvAll]
      | cons y ys => simp only [List.map_cons, PyData.eqvAll, PyData.eqv, ih, List.cons.injEq]; rw [Bool.decide_and]; congr 1
  simp only [eqP, strOfP, eqDP, dP, t, Option.map_some, l, Bool.and_self, if_true, PyData.eqv, e]
theorem ne_nil {xs : List Int} : cmpP .NotEq (.lst (xs.map .int)) (.lst []) = some (!decide (xs = [])) := by
  have := eq_ints (xs := xs) (ys := [])
  simp only [List.map_nil] at this
  simp only [cmpP, this, Option.map_some]
theorem Fd.lk {v : PV} (h : Fd v) : isLk v = false := by obtain ⟨_, _, _, _, rfl, _⟩ := h; rfl
theorem Fd.ld {v : PV} (h : Fd v) : isLD v = true := by obtain ⟨_, _, _, _, rfl, _⟩ := h; rfl
theorem mixed {w : PV} {cells : List Int} {a t n c : Int} (ha : 0 ≤ a) (hc : cells.length ≤ 63) (h1 : 1 ≤ n) (h2 : n < 1073741824) {X : CQ} (hx : X.cl = clOf [.io, .sh, .sh, .sh, .sh]) :
    ∃ (r : Int) (v' : PV), finQ [.io, .pl] false [w, .int n] (evTs' X [
  .asgSub (.var 0) (.c (.str "at")) (.bin .Add (.ix (.var 0) (.c (.str "at"))) (.c (.int 1))),
  .ite (.and_ (.cmp .GtE (.var 3) (.bin .Pow (.c (.int 10)) (.c (.int 18)))) (.cmp .LtE (.ix (.var 0) (.c (.str "at"))) (.blt .len [.ix (.var 0) (.c (.str "script"))]))) [
    .asgSub (.var 0) (.c (.str "left")) (.bin .FloorDiv (.var 3) (.var 1)),
    .ret (.bin .Mod (.var 3) (.var 1))] [],
  .asg (.nm 4) (.bin .Mod (.bin .Mult (.bin .Add (.bin .Mod (.var 3) (.c (.int 2147483629))) (.bin .Mult (.c (.int 7919)) (.ix (.var 0) (.c (.str "turn"))))) (.c (.int 48271))) (.c (.int 2147483647))),
  .asg (.nm 4) (.bin .Mod (.bin .Mult (.bin .Add (.bin .FloorDiv (.var 4) (.c (.int 11))) (.bin .Mult (.c (.int 6007)) (.ix (.var 0) (.c (.str "turn"))))) (.c (.int 69621))) (.c (.int 2147483587))),
  .ret (.bin .Mod (.bin .FloorDiv (.var 4) (.c (.int 7))) (.var 1))] [some (fdD cells a 0 t), some (.int n), none, some (.int c), none]) = .ok (.val (.int r)) [v', .int n] ∧ 0 ≤ r ∧ r < n ∧ Fd v' := by
  have dn : 0 < n ∧ n < 1073741824 := ⟨by omega, h2⟩
  have ok : ∀ {x y z : Int}, 0 ≤ x → 0 ≤ y → Fd (fdD cells x y z) := fun hx hy => ⟨cells, _, _, _, rfl, hx, hy, hc⟩
  have p10 : binP .Pow (.int 10) (.int 18) = some (.val (.int 1000000000000000000)) := bp_pow (by decide)
  have fin : ∀ {y : Int}, 0 ≤ y % n ∧ y % n < n := fun {y} => ⟨Int.emod_nonneg _ (by omega), Int.emod_lt_of_pos _ (by omega)⟩
  have d7 : (0 : Int) < 7 ∧ (7 : Int) < 1073741824 := by decide
  have d11 : (0 : Int) < 11 ∧ (11 : Int) < 1073741824 := by decide
  have m1 : ∀ x : Int, binP .Mult (.int 7919) (.int x) = some (.val (.int (7919 * x))) := fun x => bp_mul (.inl (by decide))
  have m2 : ∀ x : Int, binP .Mult (.int x) (.int 48271) = some (.val (.int (x * 48271))) := fun x => bp_mul (.inr (by decide))
  have m3 : ∀ x : Int, binP .Mult (.int 6007) (.int x) = some (.val (.int (6007 * x))) := fun x => bp_mul (.inl (by decide))
  have m4 : ∀ x : Int, binP .Mult (.int x) (.int 69621) = some (.val (.int (x * 69621))) := fun x => bp_mul (.inr (by decide))
  have e1 : ∀ x : Int, binP .Mod (.int x) (.int 2147483629) = some (.val (.int (x % 2147483629))) := fun x => bp_mod (by decide)
  have e2 : ∀ x : Int, binP .Mod (.int x) (.int 2147483647) = some (.val (.int (x % 2147483647))) := fun x => bp_mod (by decide)
  have e3 : ∀ x : Int, binP .Mod (.int x) (.int 2147483587) = some (.val (.int (x % 2147483587))) := fun x => bp_mod (by decide)
  dsimp?! [hx, rdF, ixT, stT, ixL, ldF, ixA, stA, ixS, p10]
  by_cases c1 : (1000000000000000000 : Int) ≤ c
  · by_cases c2 : a + 1 ≤ (cells.length : Int)
    · dsimp?! [hx, rdF, ixT, stT, ixL, ldF, ixA, stA, ixS, c1, c2, stL, bp_div dn, bp_mod dn.1, lkF]
      exact ⟨_, _, rfl, fin.1, fin.2, ok (by omega) (Int.ediv_nonneg (by omega) (by omega))⟩
    · dsimp?! [hx, rdF, ixT, stT, ixL, ldF, ixA, stA, ixS, c1, c2, m1, m2, m3, m4, e1, e2, e3, bp_div d7, bp_div d11, bp_mod dn.1, lkF]
      exact ⟨_, _, rfl, fin.1, fin.2, ok (by omega) (by omega)⟩
  · dsimp?! [hx, rdF, ixT, stT, ixL, ldF, ixA, stA, ixS, c1, m1, m2, m3, m4, e1, e2, e3, bp_div d7, bp_div d11, bp_mod dn.1, lkF]
    exact ⟨_, _, rfl, fin.1, fin.2, ok (by omega) (by omega)⟩
theorem draw_ok {Γ : Str → Option FP} {gl : Str → Option MV} {W d : Nat} {c : Nat → Cls} (g : Γ "_law_draw" = some p_x_draw) : Draw (cqOf Γ gl W (d + 1) (c)) := by
  refine ⟨sig_eq g, fun v n hv h1 h2 => ?_⟩
  obtain ⟨cells, a, l, t, rfl, ha, hl, hc⟩ := hv
  have ok : ∀ {x y z : Int}, 0 ≤ x → 0 ≤ y → Fd (fdD cells x y z) := fun hx hy => ⟨cells, _, _, _, rfl, hx, hy, hc⟩
  have dn : 0 < n ∧ n < 1073741824 := ⟨by omega, h2⟩
  dsimp only
  rw [run_eq g rfl rfl]
  simp only [b_x_draw]
  by_cases c0 : 0 < l
  · dsimp?! [rdF, ixT, stT, ixL, ldF, c0, bp_mod dn.1, bp_div dn, stL, lkF]
    exact ⟨_, _, rfl, Int.emod_nonneg _ (by omega), Int.emod_lt_of_pos _ (by omega), ok ha (Int.ediv_nonneg hl (by omega))⟩
  · obtain rfl : l = 0 := by omega
    rw [tk 4]
    simp only [List.take_succ_cons, List.take_zero, List.drop_succ_cons, List.drop_zero]
    have first : ∃ c : Int, evTs' (cqOf Γ gl W d (clOf [.io, .sh, .sh, .sh, .sh])) (b_x_draw.take 4) [some (fdD cells a 0 t), some (.int n), none, none, none] = .ok .nx [some (fdD cells a 0 (t + 1)), some (.int n), none, some (.int c), none] := by
      simp only [b_x_draw, List.take_succ_cons, List.take_zero]
      by_cases ce : cells = []
      · dsimp?! [rdF, ixT, stT, ixL, ldF, ixS, ne_nil, ce, Int.lt_irrefl]
        exact ⟨_, rfl⟩
      · have lp : 0 < cells.length := List.length_pos_iff.mpr ce
        have hm : (0 : Int) < (cells.length : Int) := by omega
        obtain ⟨k, hk, hk2⟩ : ∃ k : Nat, a % (cells.length : Int) = (k : Int) ∧ k < cells.length := by
          have h3 := Int.emod_nonneg a (b := (cells.length : Int)) (by omega)
          have h4 := Int.emod_lt_of_pos a hm
          exact ⟨(a % (cells.length : Int)).toNat, by omega, by omega⟩
        have at1 : atI (cells.map PV.int) (k : Int) = some (.int cells[k]) := by
          rw [at_nat, List.getElem?_map, List.getElem?_eq_getElem hk2]; rfl
        dsimp?! [rdF, ixT, stT, ixL, ldF, ixS, ixA, ne_nil, ce, Int.lt_irrefl, bp_mod hm, hk, at1]
        exact ⟨_, rfl⟩
    obtain ⟨c, e⟩ := first
    simp only [b_x_draw, List.take_succ_cons, List.take_zero] at e
    simp only [List.map_cons, List.map_nil, List.replicate, List.cons_append, List.nil_append, e, qb_ok]
    refine mixed ha hc h1 h2 ?_
    rfl
structure Shuf (X : CQ) : Prop where
  sig : X.sig "_law_shuffled" = some ([.io, .br], false)
  call : ∀ v (xs : List PV), Fd v → xs.length ≤ 1000 → ∃ (ys : List PV) (v' : PV), X.call "_law_shuffled" [v, .lst xs] = .ok (.val (.lst ys)) [v', .lst xs] ∧ ys.Perm xs ∧ Fd v'
theorem shuf_body {X : CQ} (hx : X.cl = clOf [.io, .br, .ow, .ow, .sh]) (D : Draw X) {v : PV} {xs : List PV} (hv : Fd v) (hl : xs.length ≤ 1000) :
    Evo (finQ [.io, .br] false [v, .lst xs] (evTs' X b_x_shuffled [some v, some (.lst xs), none, none, none])) fun o ios => ∃ ys v', o = .val (.lst ys) ∧ ios = [v', .lst xs] ∧ ys.Perm xs ∧ Fd v' := by
  refine finQ_ev ?_
  simp only [b_x_shuffled]
  rw [tk 2]
  dsimp?! [hx, List.take_succ_cons, List.take_zero, List.drop_succ_cons, List.drop_zero, it_rng' (show xs.length ≤ 1000000 by omega)]
  refine .bnd ((forD_inv (fun i σ => ∃ left found u x4, σ = [some u, some (.lst xs), some (.lst left), some (.lst found), x4] ∧ Fd u ∧ (found ++ left).Perm xs ∧ left.length + i = xs.length)
    ⟨xs, [], v, none, rfl, hv, by simp, by simp⟩ ?_).imp ?_)
  · rintro i w σ hi ⟨left, found, u, x4, rfl, hu, hp, hlen⟩
    obtain ⟨rfl, hi2⟩ := rng_at hi
    obtain ⟨r, u', e, r0, r1, hu'⟩ := D.call u left.length hu (by omega) (by omega)
    obtain ⟨k, rfl⟩ : ∃ k : Nat, r = (k : Int) := ⟨r.toNat, by omega⟩
    have hk : k < left.length := by omega
    have hfl : found.length < 1000000 := by have := hp.length_eq; simp at this; omega
    dsimp?! [hx, D.sig, rd_any hu.lk, rd_any hu'.lk, e, pop_at hk (by omega), app_at hfl]
    refine .ok ⟨.inl rfl, left.eraseIdx k, found ++ [left[k]], u', _, rfl, hu', ?_, ?_⟩
    · refine List.Perm.trans ?_ hp
      rw [List.append_assoc]
      refine List.Perm.append_left _ ?_
      exact erase_perm hk
    · rw [List.length_eraseIdx_of_lt hk]; omega
  · rintro fl σ ⟨rfl, left, found, u, x4, rfl, hu, hp, hlen⟩
    rw [rng_len] at hlen
    obtain rfl : left = [] := List.length_eq_zero_iff.mp (by omega)
    dsimp?! [hx]
    refine .ok (.ret ?_)
    dsimp?! [hu.lk]
    exact .ok ⟨found, u, rfl, rfl, by simpa using hp, hu⟩
theorem shuf_ok {Γ : Str → Option FP} {gl : Str → Option MV} {W d : Nat} {c : Nat → Cls} (g : Γ "_law_shuffled" = some p_x_shuffled) (D : ∀ c, Draw (cqOf Γ gl W d (c))) : Shuf (cqOf Γ gl W (d + 1) (c)) := by
  refine ⟨sig_eq g, fun v xs hv hl => ?_⟩
  dsimp only
  rw [run_eq g rfl rfl]
  obtain ⟨o, ios, e, ys, v', rfl, rfl, h1, h2⟩ := shuf_body (X := (cqOf Γ gl W d (clOf [.io, .br, .ow, .ow, .sh]))) rfl (D _) hv hl
  exact ⟨ys, v', e, h1, h2⟩
/-- the feed, made from the script -/
structure Feed (X : CQ) : Prop where
  sig : X.sig "_law_feed" = some ([.pl], true)
  call : ∀ ns : List Int, ∃ v, X.call "_law_feed" [.fro (ns.map .int)] = .ok (.own v) [.fro (ns.map .int)] ∧ Fd v
theorem feed_ok {Γ : Str → Option FP} {gl : Str → Option MV} {W d : Nat} {c : Nat → Cls} (g : Γ "_law_feed" = some p_x_feed) : Feed (cqOf Γ gl W (d + 1) (c)) := by
  refine ⟨sig_eq g, fun ns => ⟨fdD (ns.take 63) 0 0 0, ?_, _, _, _, _, rfl, Int.le_refl _, Int.le_refl _, by simp; omega⟩⟩
  dsimp only
  rw [run_eq g rfl rfl]
  simp only [b_x_feed]
  have s1 : slP (.fro (ns.map .int)) none (some 63) = some (.own (.lst ((ns.take 63).map .int))) := by
    have := cut_h (xs := ns.map PV.int) (k := 63)
    simp only [slP]
    rw [show (63 : Int) = ((63 : Nat) : Int) from rfl, this, List.map_take]
  have s2 : pairUpP [.str "script", .lst ((ns.take 63).map .int), .str "at", .int 0, .str "left", .int 0, .str "turn", .int 0] = some (fdK (ns.take 63) 0 0 0) := rfl
  have s3 : (fdK (ns.take 63) 0 0 0).foldl (fun acc kv => putKP kv.1 kv.2 acc) [] = fdK (ns.take 63) 0 0 0 := by
    simp only [fdK, List.foldl_cons, List.foldl_nil, putKP, List.any_nil, List.any_cons, List.nil_append, List.cons_append, nSA, nSL, nAL, nST, nAT, nLT, decide_false, Bool.or_self, Bool.false_eq_true, if_false]
  dsimp?! [s1, s2, s3]
  rfl
/-! a one-way web -/
abbrev OT := Nat × Nat × Nat
def otie (t : OT) : PV := .tup [.int t.1, .int t.2.1, .int t.2.2]
def oneV (n : Nat) (ts : List OT) : PV := .tup [.int n, .tup (ts.map otie)]
def okO (n : Nat) (t : OT) : Prop := t.1 < n ∧ t.2.1 < n ∧ t.1 ≠ t.2.1 ∧ t.2.2 < 100
structure OneW (X : CQ) : Prop where
  sig : X.sig "_law_oneway" = some ([.io, .pl, .pl], false)
  call : ∀ v (p m : Nat), Fd v → 1 ≤ p → p ≤ 100 → p ≤ m → m ≤ 100 → ∃ (n : Nat) (ts : List OT) (v' : PV), X.call "_law_oneway" [v, .int p, .int m] = .ok (.val (oneV n ts)) [v', .int p, .int m] ∧ 1 ≤ n ∧ n ≤ p ∧ ts.length ≤ m ∧ (∀ t ∈ ts, okO n t) ∧ Fd v'
theorem other_ne {n a r : Int} (a0 : 0 ≤ a) (an : a < n) (r0 : 0 ≤ r) (rn : r < n - 1) : 0 ≤ (a + 1 + r) % n ∧ (a + 1 + r) % n < n ∧ (a + 1 + r) % n ≠ a := by
  by_cases c : a + 1 + r < n
  · rw [Int.emod_eq_of_lt (by omega) c]; omega
  · have : (a + 1 + r) % n = a + 1 + r - n := by
      have e : a + 1 + r = (a + 1 + r - n) + n := by omega
      rw [e, Int.add_emod_right, Int.emod_eq_of_lt (by omega) (by omega)]
      omega
    omega
def natOf : PV → Nat
  | .int i => i.toNat
  | _ => 0
theorem perm_rng {ys : List PV} {n : Nat} (h : ys.Perm (rngIP 0 n)) : ∃ ks : List Nat, ys = ks.map (fun k : Nat => .int (k : Int)) ∧ ks.Perm (List.range n) := by
  refine ⟨ys.map natOf, ?_, ?_⟩
  · rw [List.map_map]
    have : ∀ y ∈ ys, ((fun k : Nat => PV.int (k : Int)) ∘ natOf) y = id y := fun y hy => by
      have := h.mem_iff.mp hy
      simp only [rngIP, List.mem_map, List.mem_range] at this
      obtain ⟨k, _, rfl⟩ := this
      simp [natOf]
    rw [List.map_congr_left this, List.map_id]
  · have := h.map natOf
    refine this.trans ?_
    simp only [rngIP, List.map_map]
    have e : (natOf ∘ fun k : Nat => PV.int (0 + (k : Int))) = id := by funext k; simp [natOf]
    rw [e, List.map_id]
theorem next_ne {n i : Nat} (h : 1 < n) (hi : i < n) : (i + 1) % n < n ∧ (i + 1) % n ≠ i := by
  refine ⟨Nat.mod_lt _ (by omega), ?_⟩
  by_cases c : i + 1 < n
  · rw [Nat.mod_eq_of_lt c]; omega
  · have : i + 1 = n := by omega
    rw [this, Nat.mod_self]; omega
/-- the round through all, where there is one -/
theorem one_first {X : CQ} (hx : X.cl = clOf [.io, .sh, .sh, .sh, .ow, .sh, .sh, .sh, .sh]) (D : Draw X) (S : Shuf X) {v : PV} {p m n : Nat} (hv : Fd v) (hn : 1 ≤ n) (hnp : n ≤ 100) (hnm : n ≤ m) :
    Evq (evTs' X (b_x_oneway.drop 2 |>.take 1) [some v, some (.int p), some (.int m), some (.int n), some (.lst []), none, none, none, none]) fun fl σ => fl = .nx ∧ ∃ (ts : List OT) (u : PV) (x5 x6 : Option PV), σ = [some u, some (.int p), some (.int m), some (.int n), some (.lst (ts.map otie)), x5, x6, none, none] ∧ Fd u ∧ ts.length ≤ n ∧ (∀ t ∈ ts, okO n t) := by
  simp only [b_x_oneway, List.drop_succ_cons, List.drop_zero, List.take_succ_cons, List.take_zero]
  by_cases c1 : (1 : Int) < n
  · obtain ⟨r, u, e, r0, r1, hu⟩ := D.call v 2 hv (by decide) (by decide)
    by_cases c2 : r = 0
    · subst c2
      obtain ⟨ys, u2, e2, hp, hu2⟩ := S.call u (rngIP 0 n) hu (by rw [rng_len]; omega)
      dsimp?! [hx, D.sig, S.sig, rd_any hv.lk, rd_any hu.lk, rd_any hu2.lk, e, c1, rngP_ok (show n ≤ 1000000 by omega), e2, it_rng' (show n ≤ 1000000 by omega), lm_le (show n ≤ 1000000 by omega)]
      obtain ⟨ks, rfl, hk⟩ := perm_rng hp
      have kl : ks.length = n := by rw [hk.length_eq, List.length_range]
      have kn : ∀ i (h : i < ks.length), ks[i] < n := fun i h => by
        have := hk.mem_iff.mp (List.getElem_mem h)
        simpa using this
      have nd : ks.Nodup := hk.nodup_iff.mpr List.nodup_range
      refine .bnd (compD_inv (fun i zs σ => ∃ (ts : List OT) (w : PV), zs = ts.map otie ∧ ts.length = i ∧ σ = [some w, some (.int p), some (.int m), some (.int n), some (.lst []), some (.lst (ks.map fun k : Nat => .int (k : Int))), none, none, none] ∧ Fd w ∧ ∀ t ∈ ts, okO n t) ?_ ?_ ?_)
      · exact ⟨[], u2, rfl, rfl, rfl, hu2, by simp⟩
      · rintro i v zs σ hi ⟨ts, w, rfl, hl, rfl, hw, ok⟩
        obtain ⟨rfl, hi2⟩ := rng_at hi
        obtain ⟨r, w2, e3, r2, r3, hw2⟩ := D.call w 6 hw (by decide) (by decide)
        obtain ⟨n1, n2⟩ := next_ne (show 1 < n by omega) hi2
        have a1 : atI (ks.map fun k : Nat => PV.int (k : Int)) (0 + (i : Int)) = some (.int (ks[i]'(by omega) : Nat)) := by
          rw [Int.zero_add, at_nat, List.getElem?_map, List.getElem?_eq_getElem (by omega)]; rfl
        have em : (0 + (i : Int) + 1) % (n : Int) = (((i + 1) % n : Nat) : Int) := by rw [Int.zero_add]; norm_cast
        have a2 : atI (ks.map fun k : Nat => PV.int (k : Int)) (((i + 1) % n : Nat) : Int) = some (.int (ks[(i + 1) % n]'(by omega) : Nat)) := by
          rw [at_nat, List.getElem?_map, List.getElem?_eq_getElem (by omega)]; rfl
        dsimp?! [hx, D.sig, rd_any hw.lk, rd_any hw2.lk, e3, a1, a2, bp_mod (show (0 : Int) < n by omega), em]
        refine .ok ⟨ts ++ [(ks[i]'(by omega), ks[(i + 1) % n]'(by omega), r.toNat)], w2, ?_, by simp [hl], rfl, hw2, fun t ht => ?_⟩
        · simp [otie]; omega
        · rcases List.mem_append.mp ht with q | q
          · exact ok t q
          · simp at q
            subst q
            refine ⟨kn _ _, kn _ _, fun q => n2 ?_, by dsimp only; omega⟩
            exact (nd_ne nd _ _ q).symm
      · rintro zs σ ⟨ts, w, rfl, hl, rfl, hw, ok⟩
        dsimp?! [hx]
        rw [rng_len] at hl
        exact .ok ⟨rfl, ts, w, _, _, rfl, hw, by omega, ok⟩
    · dsimp?! [hx, D.sig, rd_any hv.lk, rd_any hu.lk, e, c1, c2, beq_eq_false_iff_ne.mpr c2]
      exact .ok ⟨rfl, [], u, none, none, rfl, hu, by simp, by simp⟩
  · dsimp?! [hx, c1]
    exact .ok ⟨rfl, [], v, none, none, rfl, hv, by simp, by simp⟩
/-- the ties behind -/
theorem one_loop {X : CQ} (hx : X.cl = clOf [.io, .sh, .sh, .sh, .ow, .sh, .sh, .sh, .sh]) (D : Draw X) {v : PV} {p m n : Nat} {ts0 : List OT} {x5 x6 : Option PV} (hv : Fd v) (hn : 1 ≤ n) (hnp : n ≤ 100) (hnm : n ≤ m) (hm : m ≤ 100) (h0 : ts0.length ≤ n) (ok0 : ∀ t ∈ ts0, okO n t) :
    Evq (evTs' X (b_x_oneway.drop 3 |>.take 1) [some v, some (.int p), some (.int m), some (.int n), some (.lst (ts0.map otie)), x5, x6, none, none]) fun fl σ => fl = .nx ∧ ∃ (ts : List OT) (u : PV) (x5 x6 x7 x8 : Option PV), σ = [some u, some (.int p), some (.int m), some (.int n), some (.lst (ts.map otie)), x5, x6, x7, x8] ∧ Fd u ∧ ts.length ≤ m ∧ (∀ t ∈ ts, okO n t) := by
  simp only [b_x_oneway, List.drop_succ_cons, List.drop_zero, List.take_succ_cons, List.take_zero]
  obtain ⟨r, u, e, r0, r1, hu⟩ := D.call v (1 + m - ts0.length) hv (by omega) (by omega)
  have ec : ((1 : Int) + (m : Int) - ((ts0.map otie).length : Nat)) = 1 + m - ts0.length := by simp
  generalize hk : r * (if decide ((1 : Int) < n) = true then 1 else 0) = k
  have k0 : 0 ≤ k ∧ k ≤ m - ts0.length ∧ (0 < k → 1 < n) := by subst hk; split <;> rename_i z <;> simp at z <;> omega
  obtain ⟨k, rfl⟩ : ∃ j : Nat, k = (j : Int) := ⟨k.toNat, by omega⟩
  have bm : binP .Mult (.int r) (.int (if decide ((1 : Int) < n) = true then 1 else 0)) = some (.val (.int (k : Nat))) := by rw [← hk]; exact bp_mul (.inr (by split <;> decide))
  dsimp?! [hx, D.sig, rd_any hv.lk, rd_any hu.lk, e, bm, it_rng' (show k ≤ 1000000 by omega)]
  refine .bnd ((forD_inv (fun i σ => ∃ (ts : List OT) (w : PV) (x5 x6 x7 x8 : Option PV), σ = [some w, some (.int p), some (.int m), some (.int n), some (.lst (ts.map otie)), x5, x6, x7, x8] ∧ Fd w ∧ ts.length = ts0.length + i ∧ ∀ t ∈ ts, okO n t)
    ⟨ts0, u, x5, x6, none, none, rfl, hu, rfl, ok0⟩ ?_).imp ?_)
  · rintro i v σ hi ⟨ts, w, x5, x6, x7, x8, rfl, hw, hl, ok⟩
    obtain ⟨rfl, hi2⟩ := rng_at hi
    have n1 : 1 < n := by omega
    obtain ⟨r1, w1, e1, a1, b1, hw1⟩ := D.call w n hw (by omega) (by omega)
    obtain ⟨r2, w2, e2, a2, b2, hw2⟩ := D.call w1 (n - 1) hw1 (by omega) (by omega)
    obtain ⟨r3, w3, e3, a3, b3, hw3⟩ := D.call w2 100 hw2 (by omega) (by omega)
    obtain ⟨r4, w4, e4, a4, b4, hw4⟩ := D.call w3 7 hw3 (by omega) (by omega)
    obtain ⟨r5, w5, e5, a5, b5, hw5⟩ := D.call w4 6 hw4 (by omega) (by omega)
    obtain ⟨o1, o2, o3⟩ := other_ne a1 b1 a2 b2
    generalize hb : (r1 + 1 + r2) % (n : Int) = b at o1 o2 o3
    obtain ⟨q, hq, q0, q1⟩ : ∃ q : Int, atI [PV.int 0, PV.int 1, PV.int 1, PV.int 2, PV.int 3, PV.int 99, PV.int r3] r4 = some (.int q) ∧ 0 ≤ q ∧ q < 100 := by
      have : r4 = 0 ∨ r4 = 1 ∨ r4 = 2 ∨ r4 = 3 ∨ r4 = 4 ∨ r4 = 5 ∨ r4 = 6 := by omega
      rcases this with rfl | rfl | rfl | rfl | rfl | rfl | rfl
      · exact ⟨0, rfl, by omega⟩
      · exact ⟨1, rfl, by omega⟩
      · exact ⟨1, rfl, by omega⟩
      · exact ⟨2, rfl, by omega⟩
      · exact ⟨3, rfl, by omega⟩
      · exact ⟨99, rfl, by omega⟩
      · exact ⟨r3, rfl, by omega⟩
    have al : (ts.map otie).length < 1000000 := by simp; omega
    have oknew : ∀ t ∈ ts ++ [(r1.toNat, b.toNat, q.toNat)], okO n t := fun t ht => by
      rcases List.mem_append.mp ht with z | z
      · exact ok t z
      · simp at z; subst z; exact ⟨by dsimp only; omega, by dsimp only; omega, by dsimp only; omega, by dsimp only; omega⟩
    have emap : ts.map otie ++ [PV.tup [.int r1, .int b, .int q]] = (ts ++ [(r1.toNat, b.toNat, q.toNat)]).map otie := by simp [otie]; omega
    generalize ht' : ts ++ [(r1.toNat, b.toNat, q.toNat)] = ts' at oknew emap
    have hl' : ts'.length = ts0.length + (i + 1) := by rw [← ht']; simp [hl]; omega
    by_cases c6 : r5 = 0
    · subst c6
      obtain ⟨r6, w6, e6, a6, b6, hw6⟩ := D.call w5 ts'.length hw5 (by omega) (by omega)
      obtain ⟨j, rfl⟩ : ∃ j : Nat, r6 = (j : Int) := ⟨r6.toNat, by omega⟩
      have hj : j < ts'.length := by omega
      have aj : atI (ts'.map otie) (j : Int) = some (otie ts'[j]) := by rw [at_nat, List.getElem?_map, List.getElem?_eq_getElem hj]; rfl
      have es : setV (.lst (ts'.map otie)) (.int ((ts'.length : Int) - 1)) (otie ts'[j]) = some (.lst ((ts'.set (ts'.length - 1) ts'[j]).map otie)) := by
        rw [show ((ts'.length : Int) - 1) = ((ts'.length - 1 : Nat) : Int) by omega, set_nat (by simp; omega), List.map_set]
      dsimp?! [hx, D.sig, rd_any hw.lk, rd_any hw1.lk, rd_any hw2.lk, rd_any hw3.lk, rd_any hw4.lk, rd_any hw5.lk, rd_any hw6.lk, e1, e2, e3, e4, e5, e6, bp_mod (show (0 : Int) < n by omega), hb, hq, app_at al, emap, aj, es]
      refine .ok ⟨.inl rfl, _, w6, _, _, _, _, rfl, hw6, by simp [hl'], fun t ht => ?_⟩
      rcases List.mem_or_eq_of_mem_set ht with z | z
      · exact oknew t z
      · rw [z]; exact oknew _ (List.getElem_mem hj)
    · dsimp?! [hx, D.sig, rd_any hw.lk, rd_any hw1.lk, rd_any hw2.lk, rd_any hw3.lk, rd_any hw4.lk, rd_any hw5.lk, e1, e2, e3, e4, e5, bp_mod (show (0 : Int) < n by omega), hb, hq, app_at al, emap, beq_eq_false_iff_ne.mpr c6]
      exact .ok ⟨.inl rfl, _, w5, _, _, _, _, rfl, hw5, hl', oknew⟩
  · rintro fl σ ⟨rfl, ts, w, x5, x6, x7, x8, rfl, hw, hl, ok⟩
    rw [rng_len] at hl
    dsimp?! [hx]
    exact .ok ⟨rfl, ts, w, _, _, _, _, rfl, hw, by omega, ok⟩
theorem one_ok {Γ : Str → Option FP} {gl : Str → Option MV} {W d : Nat} {c : Nat → Cls} (g : Γ "_law_oneway" = some p_x_oneway) (D : ∀ c, Draw (cqOf Γ gl W d (c))) (S : ∀ c, Shuf (cqOf Γ gl W d (c))) : OneW (cqOf Γ gl W (d + 1) (c)) := by
  refine ⟨sig_eq g, fun v p m hv h1 h2 h3 h4 => ?_⟩
  dsimp only
  rw [run_eq g rfl rfl]
  generalize hX : cqOf Γ gl W d (clOf [.io, .sh, .sh, .sh, .ow, .sh, .sh, .sh, .sh]) = X
  have hx : X.cl = clOf [.io, .sh, .sh, .sh, .ow, .sh, .sh, .sh, .sh] := by rw [← hX]
  have D : Draw X := by rw [← hX]; exact D _
  have S : Shuf X := by rw [← hX]; exact S _
  obtain ⟨r, u, e, r0, r1, hu⟩ := D.call v p hv (by omega) (by omega)
  obtain ⟨n, hn⟩ : ∃ n : Nat, 1 + r = (n : Int) := ⟨(1 + r).toNat, by omega⟩
  have fin : Evo (finQ [.io, .pl, .pl] false [v, .int p, .int m] (evTs' X b_x_oneway [some v, some (.int p), some (.int m), none, none, none, none, none, none])) fun o ios => ∃ (n : Nat) (ts : List OT) (v' : PV), o = .val (oneV n ts) ∧ ios = [v', .int p, .int m] ∧ 1 ≤ n ∧ n ≤ p ∧ ts.length ≤ m ∧ (∀ t ∈ ts, okO n t) ∧ Fd v' := by
    refine finQ_ev ?_
    rw [tk 2, show b_x_oneway.take 2 = [.asg (.nm 3) (.bin .Add (.c (.int 1)) (.call "_law_draw" [.var 0, .var 1])), .asg (.nm 4) (.lst [])] from rfl]
    dsimp?! [hx, D.sig, rd_any hv.lk, e, hn]
    rw [tk 1]
    refine .bnd ((one_first hx D S hu (by omega) (by omega) (by omega)).imp ?_)
    rintro fl σ ⟨rfl, ts, u, x5, x6, rfl, hu, hl, ok⟩
    rw [th_nx, tk 1]
    refine .bnd ((one_loop hx D hu (by omega) (by omega) (by omega) h4 hl ok).imp ?_)
    rintro fl σ ⟨rfl, ts, u, x5, x6, x7, x8, rfl, hu, hl, ok⟩
    obtain ⟨ys, u2, e2, hp, hu2⟩ := S.call u (ts.map otie) hu (by simp; omega)
    rw [th_nx, show List.drop 1 (List.drop 1 (b_x_oneway.drop 2)) = [.ret (.tup [.var 3, .blt .tuple [.call "_law_shuffled" [.var 0, .var 4]]])] from rfl]
    dsimp?! [hx, S.sig, rd_any hu.lk, rd_any hu2.lk, e2]
    refine .ok (.ret ?_)
    dsimp?! [hu2.lk]
    obtain ⟨zs, rfl, hz⟩ : ∃ zs : List OT, ys = zs.map otie ∧ zs.Perm ts := by
      exact perm_map_inv hp ts rfl
    exact .ok ⟨n, zs, u2, rfl, rfl, by omega, by omega, by rw [hz.length_eq]; exact hl, fun t ht => ok t (hz.mem_iff.mp ht), hu2⟩
  obtain ⟨o, ios, e, n, ts, v', rfl, rfl, q⟩ := fin
  exact ⟨n, ts, v', e, q⟩
end GD
end Mn

set_option autoImplicit false
set_option maxHeartbeats 1000000
/-! L66: rows walked one way (k66). -/
namespace Mn
namespace L66
open PySem L2 GD
/-- 0 thing, 1 least, 2 most -/
def b_is_within : List MS := [
  .ret (.and_ (.isi (.var 0) .int) (.and_ (.not_ (.isi (.var 0) .bool)) (.chain .LtE .LtE (.var 1) (.var 0) (.var 2))))]
def p_is_within : FP := ⟨3, 3, b_is_within, [.sh, .sh, .sh], [.pl, .pl, .pl], false⟩
def inR (v : PV) (lo hi : Int) : Bool := match v with
  | .int i => decide (lo ≤ i) && decide (i ≤ hi)
  | _ => false
/-- of a thing, whether it is a whole number within two bounds -/
structure Within (X : CQ) (f : Str) : Prop where
  sig : X.sig f = some ([.pl, .pl, .pl], false)
  call : ∀ v (lo hi : Int), plain v = true → X.call f [v, .int lo, .int hi] = .ok (.val (.bl (inR v lo hi))) [v, .int lo, .int hi]
theorem within_ok {Γ : Str → Option FP} {gl : Str → Option MV} {W : Nat} {f : Str} {d : Nat} {c : Nat → Cls} (g : Γ f = some ⟨3, 3, b_is_within, [.sh, .sh, .sh], [.pl, .pl, .pl], false⟩) : Within (cqOf Γ gl W (d + 1) (c)) f := by
  refine ⟨sig_eq g, fun v lo hi hv => ?_⟩
  dsimp only
  rw [run_eq g rfl rfl]
  simp only [b_is_within]
  cases v with
  | int i =>
    by_cases h1 : lo ≤ i
    · dsimp?! [h1, inR, show decide (Ty.int = Ty.bool) = false from rfl]
    · dsimp?! [h1, inR, show decide (Ty.int = Ty.bool) = false from rfl]
      simp [h1]
  | fro _ => cases hv
  | lck => cases hv
  | bl b => dsimp?! [inR, show decide (Ty.int = Ty.int) = true from rfl]
  | non => dsimp?! [inR]
  | str s => dsimp?! [inR, rd_any (v := .str s) rfl, show decide (Ty.int = Ty.str) = false from rfl]
  | tup s => dsimp?! [inR, show decide (Ty.int = Ty.tuple) = false from rfl]
  | lst s => dsimp?! [inR, show decide (Ty.int = Ty.list) = false from rfl]
  | dct s => dsimp?! [inR, show isiP (.dct s) .int = some false from rfl]
def b_wt : List MS := [
    .ite (.or_ (.not_ (.call "is_within" [.var 5, .c (.int 0), .bin .Sub (.blt .len [.ix (.var 0) (.c (.int 1))]) (.c (.int 1))])) (.cmp .NotEq (.ix (.ix (.ix (.var 0) (.c (.int 1))) (.var 5)) (.c (.int 0))) (.var 3))) [
      .raise "NoWalk" [.var 4]] [],
    .asg (.nm 3) (.ix (.ix (.ix (.var 0) (.c (.int 1))) (.var 5)) (.c (.int 1)))]
/-- 0 web, 1 start, 2 row, 3 place, 4 k, 5 number -/
def b_oneway_walked : List MS := [
  .ite (.or_ (.not_ (.isi (.var 2) .tuple)) (.cmp .Gt (.blt .len [.var 2]) (.glb "MOST_STEPS"))) [
    .raise "NoWalk" [.c (.int 0)]] [],
  .asg (.nm 3) (.var 1),
  .for_ (.tp [.nm 4, .nm 5]) .enum (.var 2) (.c .non) b_wt,
  .retC (.var 3)]
def p_oneway_walked : FP := ⟨3, 6, b_oneway_walked, [.sh, .sh, .sh, .sh, .sh, .sh], [.pl, .pl, .pl], false⟩
def b_dt : List MS := [
    .asg (.nm 5) (.ix (.var 2) (.var 4)),
    .ite (.or_ (.not_ (.isi (.var 5) .int)) (.or_ (.isi (.var 5) .bool) (.not_ (.chain .LtE .Lt (.c (.int 0)) (.var 5) (.blt .len [.ix (.var 0) (.c (.int 1))]))))) [
      .ret (.lst [.var 4])] [],
    .ite (.cmp .NotEq (.ix (.ix (.ix (.var 0) (.c (.int 1))) (.var 5)) (.c (.int 0))) (.var 3)) [
      .ret (.lst [.var 4])] [],
    .asg (.nm 3) (.ix (.ix (.ix (.var 0) (.c (.int 1))) (.var 5)) (.c (.int 1)))]
/-- 0 _law_web, 1 _law_start, 2 _law_thing, 3 _law_place, 4 _law_k, 5 _law_number -/
def b_x_due : List MS := [
  .ite (.or_ (.not_ (.isi (.var 2) .tuple)) (.cmp .Gt (.blt .len [.var 2]) (.c (.int 400)))) [
    .ret (.lst [.c (.int 0)])] [],
  .asg (.nm 3) (.var 1),
  .for_ (.nm 4) .rng1 (.blt .len [.var 2]) (.c .non) b_dt,
  .ret (.var 3)]
def p_x_due : FP := ⟨3, 6, b_x_due, [.sh, .sh, .sh, .sh, .sh, .sh], [.pl, .pl, .pl], false⟩
/-! what it comes to -/
def ot (ts : List OT) (k : Nat) : OT := ts.getD k (0, 0, 0)
theorem ot_at {ts : List OT} {k : Nat} (h : k < ts.length) : atI (ts.map otie) (k : Int) = some (.tup [.int (ot ts k).1, .int (ot ts k).2.1, .int (ot ts k).2.2]) := by
  rw [at_nat, List.getElem?_map, List.getElem?_eq_getElem h]
  simp [ot, h, otie]
/-- to where the tie leads -/
def goes (ts : List OT) (q : Nat) (v : PV) : Option Nat := match v with
  | .int i => if 0 ≤ i ∧ i < ts.length then (if (ot ts i.toNat).1 = q then some (ot ts i.toNat).2.1 else none) else none
  | _ => none
def wlk (ts : List OT) : Nat → Nat → List PV → Nat ⊕ Nat
  | _, q, [] => .inr q
  | k, q, v :: vs => match goes ts q v with
    | some r => wlk ts (k + 1) r vs
    | none => .inl k
def walkV (ts : List OT) (q : Nat) (row : PV) : PV := match row with
  | .tup xs => if xs.length ≤ 400 then (match wlk ts 0 q xs with
    | .inr r => .int (r : Nat)
    | .inl k => encXP "NoWalk" [.int (k : Nat)]) else encXP "NoWalk" [.int 0]
  | _ => encXP "NoWalk" [.int 0]
def dueV (ts : List OT) (q : Nat) (row : PV) : PV := match row with
  | .tup xs => if xs.length ≤ 400 then (match wlk ts 0 q xs with
    | .inr r => .int (r : Nat)
    | .inl k => .lst [.int (k : Nat)]) else .lst [.int 0]
  | _ => .lst [.int 0]
theorem wlk_drop {ts : List OT} {i q : Nat} {xs : List PV} {x : PV} (h : xs[i]? = some x) : wlk ts i q (xs.drop i) = match goes ts q x with
    | some r => wlk ts (i + 1) r (xs.drop (i + 1))
    | none => .inl i := by
  obtain ⟨h1, h2⟩ := List.getElem?_eq_some_iff.mp h
  rw [List.drop_eq_getElem_cons h1, h2]
  rfl
theorem enum_any {xs : List PV} {i : Nat} {v : PV} (h : (enumP xs)[i]? = some v) : ∃ x, xs[i]? = some x ∧ v = .tup [.int (i : Nat), x] := by
  simp only [enumP, List.getElem?_mapIdx] at h
  obtain ⟨x, hx, rfl⟩ := Option.map_eq_some_iff.mp h
  exact ⟨x, hx, rfl⟩
theorem rs_nowalk {k : Int} : rsO "NoWalk" [.int k] = some (encXP "NoWalk" [.int k]) := rsO_ok rfl
theorem ix_one1 {n : Nat} {ts : List OT} : ixP (oneV n ts) (.int 1) = some (.tup (ts.map otie)) := rfl
theorem lk_one {n : Nat} {ts : List OT} : isLk (oneV n ts) = false := rfl
theorem rd_one {n : Nat} {ts : List OT} {σ : PS} : rdV (some (oneV n ts) :: σ) 0 = some (oneV n ts) := rfl
theorem len_one {ts : List OT} : (ts.map otie).length = ts.length := List.length_map _
def wO := And.intro @ix_one1 (And.intro @lk_one (And.intro @rd_one @len_one))
structure Walked (X : CQ) : Prop where
  sig : X.sig "oneway_walked" = some ([.pl, .pl, .pl], false)
  call : ∀ n ts (q : Nat) row, Gd row → X.call "oneway_walked" [oneV n ts, .int (q : Nat), row] = .ok (.val (walkV ts q row)) [oneV n ts, .int (q : Nat), row]
theorem goes_cases {ts : List OT} {q : Nat} {v : PV} : (∃ k : Nat, v = .int (k : Int) ∧ k < ts.length ∧ goes ts q v = if (ot ts k).1 = q then some (ot ts k).2.1 else none) ∨ (inR v 0 ((ts.length : Int) - 1) = false ∧ goes ts q v = none) := by
  cases v with
  | int i =>
    by_cases c : 0 ≤ i ∧ i < ts.length
    · refine .inl ⟨i.toNat, by rw [show ((i.toNat : Nat) : Int) = i by omega], by omega, ?_⟩
      simp only [goes]
      rw [if_pos c]
    · refine .inr ⟨?_, by simp only [goes]; rw [if_neg c]⟩
      simp only [inR, Bool.and_eq_false_iff, decide_eq_false_iff_not]
      omega
  | _ => exact .inr ⟨rfl, rfl⟩
theorem walked_ok {Γ : Str → Option FP} {gl : Str → Option MV} {W d : Nat} {c : Nat → Cls} (g : Γ "oneway_walked" = some p_oneway_walked) (hg : gl "MOST_STEPS" = some (.int 400)) (Wi : ∀ c, Within (cqOf Γ gl W d c) "is_within") : Walked (cqOf Γ gl W (d + 1) c) := by
  refine ⟨sig_eq g, fun n ts q row hr => ?_⟩
  dsimp only
  rw [run_eq g rfl rfl]
  generalize hX : cqOf Γ gl W d (clOf [.sh, .sh, .sh, .sh, .sh, .sh]) = X
  have hx : X.cl = clOf [.sh, .sh, .sh, .sh, .sh, .sh] := by rw [← hX]
  have hgl : X.gl "MOST_STEPS" = some (.int 400) := by rw [← hX]; exact hg
  have Wi : Within X "is_within" := by rw [← hX]; exact Wi _
  cases row with
  | fro _ => simp [Gd, gP] at hr
  | lck => simp [Gd, gP] at hr
  | dct _ => simp [Gd, gP] at hr
  | int i => simp only [b_oneway_walked]; dsimp! [hx, wO, rs_nowalk]; rfl
  | bl b => simp only [b_oneway_walked]; dsimp! [hx, wO, rs_nowalk]; rfl
  | non => simp only [b_oneway_walked]; dsimp! [hx, wO, rs_nowalk]; rfl
  | str s => simp only [b_oneway_walked]; dsimp! [hx, wO, rs_nowalk, rd_any (v := .str s) rfl]; rfl
  | lst s => simp only [b_oneway_walked]; dsimp! [hx, wO, rs_nowalk]; rfl
  | tup xs =>
    by_cases hl : xs.length ≤ 400
    · have gt : ((xs.length : Int) > 400) = False := by simp; omega
      have fin : Evo (finQ [.pl, .pl, .pl] false [oneV n ts, .int (q : Nat), .tup xs] (evTs' X b_oneway_walked [some (oneV n ts), some (.int (q : Nat)), some (.tup xs), none, none, none])) fun o ios => o = .val (walkV ts q (.tup xs)) ∧ ios = [oneV n ts, .int (q : Nat), .tup xs] := by
        refine finQ_ev ?_
        have ew : walkV ts q (.tup xs) = match wlk ts 0 q xs with
          | .inr r => .int (r : Nat)
          | .inl k => encXP "NoWalk" [.int (k : Nat)] := by
          simp only [walkV]
          rw [if_pos hl]
          all_goals (cases wlk ts 0 q xs <;> rfl)
        rw [ew]
        simp only [b_oneway_walked]
        generalize hbt : b_wt = bt
        dsimp! [hx, wO, hgl, gt, it_etup]
        refine .bnd ((forD_ret (fun i σ => ∃ (r : Nat) (x4 x5 : Option PV), σ = [some (oneV n ts), some (.int (q : Nat)), some (.tup xs), some (.int (r : Nat)), x4, x5] ∧ wlk ts 0 q xs = wlk ts i r (xs.drop i))
          (fun o σ => ∃ (k : Nat) (x3 x4 x5 : Option PV), wlk ts 0 q xs = .inl k ∧ o = .val (encXP "NoWalk" [.int (k : Nat)]) ∧ σ = [some (oneV n ts), some (.int (q : Nat)), some (.tup xs), x3, x4, x5]) ⟨q, _, _, rfl, rfl⟩ ?_).imp ?_)
        · rintro i v σ hi ⟨r, x4, x5, rfl, hw⟩
          obtain ⟨x, hx2, rfl⟩ := enum_any hi
          have gx : Gd x := hr.tup x (List.mem_of_getElem? hx2)
          have e1 := Wi.call x 0 ((ts.length : Int) - 1) gx.plain
          have lx := gx.lk
          rw [wlk_drop hx2] at hw
          subst hbt
          simp only [b_wt]
          rcases goes_cases (ts := ts) (q := r) (v := x) with ⟨k, rfl, hk, eg⟩ | ⟨h0, eg⟩
          · have ta := ot_at hk
            have ir : inR (.int (k : Int)) 0 ((ts.length : Int) - 1) = true := by
              simp only [inR, Bool.and_eq_true, decide_eq_true_eq]; omega
            rw [ir] at e1
            rw [eg] at hw
            by_cases cq : (ot ts k).1 = r
            · rw [if_pos cq] at hw
              have c1 : (((ot ts k).1 : Int) == (r : Int)) = true := by rw [beq_iff_eq]; omega
              dsimp! [hx, wO, Wi.sig, e1, cb, ta, c1]
              exact .ok (.nx ⟨_, _, _, rfl, hw⟩)
            · rw [if_neg cq] at hw
              have c1 : (((ot ts k).1 : Int) == (r : Int)) = false := by rw [beq_eq_false_iff_ne]; omega
              dsimp! [hx, wO, Wi.sig, e1, cb, ta, c1, rs_nowalk]
              exact .ok (.ret ⟨i, _, _, _, hw, rfl, rfl⟩)
          · rw [h0] at e1
            rw [eg] at hw
            dsimp! [hx, wO, Wi.sig, e1, cb, lx, rd_any lx, rs_nowalk]
            exact .ok (.ret ⟨i, _, _, _, hw, rfl, rfl⟩)
        · rintro fl σ (⟨rfl, r, x4, x5, rfl, hw⟩ | ⟨o, rfl, k, x3, x4, x5, hw, rfl, rfl⟩)
          · have el : (enumP xs).length = xs.length := by simp [enumP]
            rw [el, List.drop_length] at hw
            rw [hw]
            dsimp! [hx]
            refine .ok (.ret ?_)
            dsimp! [hx]
            exact .ok ⟨rfl, rfl⟩
          · rw [hw]
            dsimp! [hx]
            refine .ok (.ret ?_)
            dsimp! [hx]
            exact .ok ⟨rfl, rfl⟩
      obtain ⟨o, ios, e, rfl, rfl⟩ := fin
      exact e
    · have gt : ((xs.length : Int) > 400) = True := by simp; omega
      have ew : walkV ts q (.tup xs) = encXP "NoWalk" [.int 0] := by simp only [walkV]; rw [if_neg hl]
      rw [ew]
      simp only [b_oneway_walked]
      dsimp! [hx, wO, hgl, gt, rs_nowalk]
end L66
end Mn

set_option autoImplicit false
set_option maxHeartbeats 1000000
/-! L66b: what is due and what is told (k66). -/
namespace Mn
namespace L66
open PySem L2 GD
def b_hd : List MS := [
    .asg (.nm 5) (.lst [.isX 4 ["NoPaper"], .isX 4 ["NoTie"], .isX 4 ["TooMany"]]),
    .ite (.and_ (.isX 4 ["NoWalk"]) (.and_ (.isX 4 ["ValueError"]) (.cmp .NotIn (.c (.bl true)) (.var 5)))) [
      .asg (.nm 3) (.lst [.fldX 4 "number"])] []]
/-- 0 _law_web, 1 _law_start, 2 _law_thing, 3 _law_found, 4 e, 5 _law_others -/
def b_x_told : List MS := [
  .asg (.nm 3) (.lst []),
  .tryC .val (.nm 3) "oneway_walked" [.var 0, .var 1, .var 2] "JoinError" (some 4) b_hd,
  .ret (.var 3)]
def p_x_told : FP := ⟨3, 6, b_x_told, [.sh, .sh, .sh, .sh, .sh, .sh], [.pl, .pl, .pl], false⟩
structure LDue (X : CQ) : Prop where
  sig : X.sig "_law_due" = some ([.pl, .pl, .pl], false)
  call : ∀ n ts (q : Nat) row, Gd row → X.call "_law_due" [oneV n ts, .int (q : Nat), row] = .ok (.val (dueV ts q row)) [oneV n ts, .int (q : Nat), row]
theorem ldue_ok {Γ : Str → Option FP} {gl : Str → Option MV} {W d : Nat} {c : Nat → Cls} (g : Γ "_law_due" = some p_x_due) : LDue (cqOf Γ gl W (d + 1) c) := by
  refine ⟨sig_eq g, fun n ts q row hr => ?_⟩
  dsimp only
  rw [run_eq g rfl rfl]
  generalize hX : cqOf Γ gl W d (clOf [.sh, .sh, .sh, .sh, .sh, .sh]) = X
  have hx : X.cl = clOf [.sh, .sh, .sh, .sh, .sh, .sh] := by rw [← hX]
  cases row with
  | fro _ => simp [Gd, gP] at hr
  | lck => simp [Gd, gP] at hr
  | dct _ => simp [Gd, gP] at hr
  | int i => simp only [b_x_due]; dsimp! [hx, wO]; rfl
  | bl b => simp only [b_x_due]; dsimp! [hx, wO]; rfl
  | non => simp only [b_x_due]; dsimp! [hx, wO]; rfl
  | str s => simp only [b_x_due]; dsimp! [hx, wO, rd_any (v := .str s) rfl]; rfl
  | lst s => simp only [b_x_due]; dsimp! [hx, wO]; rfl
  | tup xs =>
    by_cases hl : xs.length ≤ 400
    · have gt : ((xs.length : Int) > 400) = False := by simp; omega
      have fin : Evo (finQ [.pl, .pl, .pl] false [oneV n ts, .int (q : Nat), .tup xs] (evTs' X b_x_due [some (oneV n ts), some (.int (q : Nat)), some (.tup xs), none, none, none])) fun o ios => o = .val (dueV ts q (.tup xs)) ∧ ios = [oneV n ts, .int (q : Nat), .tup xs] := by
        refine finQ_ev ?_
        have ew : dueV ts q (.tup xs) = match wlk ts 0 q xs with
          | .inr r => .int (r : Nat)
          | .inl k => .lst [.int (k : Nat)] := by
          simp only [dueV]
          rw [if_pos hl]
          all_goals (cases wlk ts 0 q xs <;> rfl)
        rw [ew]
        simp only [b_x_due]
        generalize hbt : b_dt = bt
        dsimp! [hx, wO, gt]
        refine .bnd ((forD_ret (fun i σ => ∃ (r : Nat) (x4 x5 : Option PV), σ = [some (oneV n ts), some (.int (q : Nat)), some (.tup xs), some (.int (r : Nat)), x4, x5] ∧ wlk ts 0 q xs = wlk ts i r (xs.drop i))
          (fun o σ => ∃ (k : Nat) (x3 x4 x5 : Option PV), wlk ts 0 q xs = .inl k ∧ o = .own (.lst [.int (k : Nat)]) ∧ σ = [some (oneV n ts), some (.int (q : Nat)), some (.tup xs), x3, x4, x5]) ⟨q, _, _, rfl, rfl⟩ ?_).imp ?_)
        · rintro i v σ hi ⟨r, x4, x5, rfl, hw⟩
          obtain ⟨rfl, hi2⟩ := rng_at hi
          have hx2 : xs[i]? = some xs[i] := List.getElem?_eq_getElem hi2
          have gx : Gd xs[i] := hr.tup _ (List.getElem_mem hi2)
          have ax : atI xs (i : Int) = some xs[i] := by rw [at_nat, hx2]
          rw [wlk_drop hx2] at hw
          generalize xs[i] = x at *
          have lx := gx.lk
          subst hbt
          simp only [b_dt, Int.zero_add]
          rcases goes_cases (ts := ts) (q := r) (v := x) with ⟨k, rfl, hk, eg⟩ | ⟨h0, eg⟩
          · have ta := ot_at hk
            have k0 : ((0 : Int) ≤ (k : Int)) = True := by simp
            have k1 : ((k : Int) < (ts.length : Int)) = True := by simp; omega
            rw [eg] at hw
            by_cases cq : (ot ts k).1 = r
            · rw [if_pos cq] at hw
              have c1 : (((ot ts k).1 : Int) == (r : Int)) = true := by rw [beq_iff_eq]; omega
              dsimp! [hx, wO, ax, ta, c1, k0, k1]
              exact .ok (.nx ⟨_, _, _, rfl, hw⟩)
            · rw [if_neg cq] at hw
              have c1 : (((ot ts k).1 : Int) == (r : Int)) = false := by rw [beq_eq_false_iff_ne]; omega
              dsimp! [hx, wO, ax, ta, c1, k0, k1]
              exact .ok (.ret ⟨i, _, _, _, hw, rfl, rfl⟩)
          · rw [eg] at hw
            cases x with
            | int j =>
              simp only [inR, Bool.and_eq_false_iff, decide_eq_false_iff_not] at h0
              by_cases j0 : 0 ≤ j
              · have j1 : ¬ j < (ts.length : Int) := by omega
                dsimp! [hx, wO, ax, j0, j1]
                exact .ok (.ret ⟨i, _, _, _, hw, rfl, rfl⟩)
              · dsimp! [hx, wO, ax, j0]
                exact .ok (.ret ⟨i, _, _, _, hw, rfl, rfl⟩)
            | fro _ => simp [Gd, gP] at gx
            | lck => simp [Gd, gP] at gx
            | dct _ => simp [Gd, gP] at gx
            | _ =>
              dsimp! [hx, wO, ax, lx, rd_any lx]
              exact .ok (.ret ⟨i, _, _, _, hw, rfl, rfl⟩)
        · rintro fl σ (⟨rfl, r, x4, x5, rfl, hw⟩ | ⟨o, rfl, k, x3, x4, x5, hw, rfl, rfl⟩)
          · rw [rng_len, List.drop_length] at hw
            rw [hw]
            dsimp! [hx]
            refine .ok (.ret ?_)
            dsimp! [hx]
            exact .ok ⟨rfl, rfl⟩
          · rw [hw]
            dsimp! [hx]
            refine .ok (.ret ?_)
            dsimp! [hx]
            exact .ok ⟨rfl, rfl⟩
      obtain ⟨o, ios, e, rfl, rfl⟩ := fin
      exact e
    · have gt : ((xs.length : Int) > 400) = True := by simp; omega
      have ew : dueV ts q (.tup xs) = .lst [.int 0] := by simp only [dueV]; rw [if_neg hl]
      rw [ew]
      simp only [b_x_due]
      dsimp! [hx, wO, gt]
structure LTold (X : CQ) : Prop where
  sig : X.sig "_law_told" = some ([.pl, .pl, .pl], false)
  call : ∀ n ts (q : Nat) row, Gd row → X.call "_law_told" [oneV n ts, .int (q : Nat), row] = .ok (.val (dueV ts q row)) [oneV n ts, .int (q : Nat), row]
theorem ltold_ok {Γ : Str → Option FP} {gl : Str → Option MV} {W d : Nat} {c : Nat → Cls} (g : Γ "_law_told" = some p_x_told) (Wk : ∀ c, Walked (cqOf Γ gl W d c)) : LTold (cqOf Γ gl W (d + 1) c) := by
  refine ⟨sig_eq g, fun n ts q row hr => ?_⟩
  dsimp only
  rw [run_eq g rfl rfl]
  generalize hX : cqOf Γ gl W d (clOf [.sh, .sh, .sh, .sh, .sh, .sh]) = X
  have hx : X.cl = clOf [.sh, .sh, .sh, .sh, .sh, .sh] := by rw [← hX]
  have Wk : Walked X := by rw [← hX]; exact Wk _
  have lr := hr.lk
  have e := Wk.call n ts q row hr
  have cases2 : (∃ r : Nat, walkV ts q row = .int (r : Nat) ∧ dueV ts q row = .int (r : Nat)) ∨ ∃ k : Int, walkV ts q row = encXP "NoWalk" [.int k] ∧ dueV ts q row = .lst [.int k] := by
    cases row <;> try exact .inr ⟨_, rfl, rfl⟩
    rename_i xs
    simp only [walkV, dueV]
    split
    · cases wlk ts 0 q xs with
      | inl k => exact .inr ⟨_, rfl, rfl⟩
      | inr r => exact .inl ⟨_, rfl, rfl⟩
    · exact .inr ⟨_, rfl, rfl⟩
  rcases cases2 with ⟨r, e1, e2⟩ | ⟨k, e1, e2⟩
  · rw [e1] at e
    rw [e2]
    simp only [b_x_told]
    dsimp! [hx, wO, lr, rd_any lr, Wk.sig, e, cb]
  · rw [e1] at e
    rw [e2]
    have th : ∀ σ : PS, σ[4]? = some none → txH X "JoinError" (some 4) b_hd "NoWalk" [.int k] σ = some (X.with (some 4) "NoWalk" [.int k], σ.set 4 none) := fun σ h => txH_sh rfl (by rw [hx]; rfl) h (by simp)
    have ok2 : ∀ σ : PS, σ[4]? = some none → okK2 (clOf [.sh, .sh, .sh, .sh, .sh, .sh]) (some 4) σ = some (σ.set 4 none) := fun σ h => okK2_sh rfl h (by simp)
    have x1 : isXM "NoWalk" ["NoPaper"] = some false := rfl
    have x2 : isXM "NoWalk" ["NoTie"] = some false := rfl
    have x3 : isXM "NoWalk" ["TooMany"] = some false := rfl
    have x4 : isXM "NoWalk" ["NoWalk"] = some true := rfl
    have x5 : isXM "NoWalk" ["ValueError"] = some true := rfl
    have x6 : fldXP "NoWalk" [.int k] "number" = some (.int k) := rfl
    have ni : cmpP .NotIn (.bl true) (.lst [.bl false, .bl false, .bl false]) = some true := by decide
    have de := dec_enc (f := "NoWalk") (fs := [.int k]) rfl
    simp only [b_x_told]
    dsimp! [hx, wO, lr, rd_any lr, Wk.sig, e, de, cb]
    rw [th _ rfl]
    simp only [b_hd]
    dsimp! [hx, x1, x2, x3, x4, x5, x6, ni, lr]
    rw [ok2 _ rfl]
    dsimp! [hx, lr]
end L66
end Mn

set_option autoImplicit false
set_option maxHeartbeats 1000000
/-! L66c: rows drawn (k66). -/
namespace Mn
namespace L66
open PySem L2 GD
theorem GDdraw {X : CQ} (D : GD.Draw X) : DrawD "_law_draw" GD.Fd X := ⟨D.sig, fun v h => by obtain ⟨c, a, l, t, rfl, _⟩ := h; exact ⟨_, rfl⟩, D.call⟩
def b_r1 : List MS := [
      .asg (.tp [.nm 10, .nm 11, .nm 12]) (.ix (.ix (.var 1) (.c (.int 1))) (.var 9)),
      .expr (.meth .extend (.var 8) [.lc (.tup [.var 9, .var 14]) (.tp [.nm 13, .nm 14]) .val (.slH (.lst [.tup [.var 10, .var 11], .tup [.var 11, .var 10]]) (.var 4)) (.c .non) [.cmp .Eq (.var 13) (.var 5)] [13, 14]])]
def b_r2 : List MS := [
    .asg (.nm 8) (.lst []),
    .for_ (.nm 9) .rng1 (.blt .len [.ix (.var 1) (.c (.int 1))]) (.c .non) b_r1,
    .ite (.cmp .NotEq (.var 8) (.lst [])) [
      .asg (.tp [.nm 9, .nm 5]) (.ix (.var 8) (.call "_law_draw" [.var 0, .blt .len [.var 8]])),
      .asg (.nm 6) (.bin .Add (.var 6) (.tup [.var 9]))] []]
/-- 0 _law_feed_here, 1 _law_web, 2 _law_start, 3 _law_most, 4 _law_way, 5 _law_place, 6 _law_row_here, 7 _law_turn, 8 _law_some, 9 _law_number, 10 _law_a, 11 _law_b, 12 _law_price, 13 _law_first, 14 _law_second -/
def b_x_row : List MS := [
  .asg (.nm 5) (.var 2),
  .asg (.nm 6) (.tup []),
  .for_ (.nm 7) .rng1 (.call "_law_draw" [.var 0, .bin .Add (.var 3) (.c (.int 1))]) (.c .non) b_r2,
  .ret (.tup [.var 6, .var 5])]
def rcl : List Cls := [.io, .sh, .sh, .sh, .sh, .sh, .sh, .sh, .ow, .sh, .sh, .sh, .sh, .sh, .sh]
def p_x_row : FP := ⟨5, 15, b_x_row, rcl, [.io, .pl, .pl, .pl, .pl], false⟩
def prV (p : Nat × Nat) : PV := .tup [.int (p.1 : Int), .int (p.2 : Int)]
theorem ne_prs {L : List (Nat × Nat)} (h : ∀ p ∈ L, p.1 ≤ 1000 ∧ p.2 ≤ 1000) : cmpP .NotEq (.lst (L.map prV)) (.lst []) = some (!L.isEmpty) := by
  have g : gP (.lst (L.map prV)) 6 = true := by
    simp only [gP]
    exact gPs_of fun v hv => by
      obtain ⟨p, hp, rfl⟩ := List.mem_map.mp hv
      have := h p hp
      simp only [prV, gP, gPs, Bool.and_true, Bool.and_eq_true, decide_eq_true_eq]; omega
  have d : hP (.lst (L.map prV)) ≤ 60 := by
    have : hPs (L.map prV) ≤ 1 := hPs_of fun v hv => by
      obtain ⟨p, hp, rfl⟩ := List.mem_map.mp hv
      simp [prV, hP, hPs]
    simp only [hP]; omega
  simp only [cmpP, eq_p g d (w := .lst []) rfl (by decide) (.inl rfl), tP, Option.map_some]
  cases L with
  | nil => rfl
  | cons x xs => simp [tPs, PyData.eqv, PyData.eqvAll]
def nP (S : List Nat) : List PV := S.map fun k : Nat => .int (k : Int)
theorem st_nl {α : Type} {s : Option PV} {τ : PS} {f : PS → Q α} {β : Type} {K : α → PS → Q β} {R : β → PS → Prop} (h : s ≠ some .lck) (k : Evq (bnd (f τ) K) R) :
    Evq (bnd (ob (match some s with
      | some (some PV.lck) => none
      | x => some τ) f) K) R := by
  split
  · rename_i e
    cases e
    exact absurd rfl h
  · exact k
structure RowD (X : CQ) : Prop where
  sig : X.sig "_law_row" = some ([.io, .pl, .pl, .pl, .pl], false)
  call : ∀ v n ts (q m : Nat), Fd v → n ≤ 100 → ts.length ≤ 100 → (∀ t ∈ ts, GD.okO n t) → q ≤ 100 → m ≤ 100 → Evo (X.call "_law_row" [v, oneV n ts, .int (q : Nat), .int (m : Nat), .int 1]) fun o ios => ∃ (R : List Nat) (p : Nat) (v' : PV), o = .val (.tup [.tup (nP R), .int (p : Nat)]) ∧ ios = [v', oneV n ts, .int (q : Nat), .int (m : Nat), .int 1] ∧ R.length ≤ m ∧ (∀ k ∈ R, k ≤ 100) ∧ Fd v'
theorem row_ok {Γ : Str → Option FP} {gl : Str → Option MV} {W d : Nat} {c : Nat → Cls} (g : Γ "_law_row" = some p_x_row) (D : ∀ c, GD.Draw (cqOf Γ gl W d c)) : RowD (cqOf Γ gl W (d + 1) c) := by
  refine ⟨sig_eq g, fun v n ts q m hv hn hl ok hq hm => ?_⟩
  dsimp only
  rw [run_eq g rfl rfl]
  generalize hX : cqOf Γ gl W d (clOf rcl) = X
  have hx : X.cl = clOf [.io, .sh, .sh, .sh, .sh, .sh, .sh, .sh, .ow, .sh, .sh, .sh, .sh, .sh, .sh] := by rw [← hX]; rfl
  have D : DrawD "_law_draw" GD.Fd X := GDdraw (by rw [← hX]; exact D _)
  refine finQ_ev ?_
  obtain ⟨L0, rfl⟩ := D.dct _ hv
  simp only [b_x_row]
  generalize hb2 : b_r2 = r2
  simp_all! [hx, wO, D.sig]
  refine .bnd ((forD_inv (fun i σ => ∃ (u : PV) (q' : Nat) (R : List Nat) (x7 x8 x9 x10 x11 x12 : Option PV), σ = [some u, some (oneV n ts), some (.int (q : Nat)), some (.int (m : Nat)), some (.int 1), some (.int (q' : Nat)), some (.tup (nP R)), x7, x8, x9, x10, x11, x12, none, none] ∧ x8 ≠ some .lck ∧ q' ≤ 100 ∧ R.length ≤ i ∧ i ≤ r ∧ (∀ k ∈ R, k ≤ 100) ∧ Fd u) ⟨_, q, [], _, _, _, _, _, _, rfl, (by intro z; cases z), hq, by simp, by omega, by simp, hL⟩ ?_).imp ?_)
  · rintro i x σ hi ⟨u, q', R, x7, x8, x9, x10, x11, x12, rfl, h8, hq', lR, ir, okR, hu⟩
    obtain ⟨rfl, hi2⟩ := rng_at hi
    obtain ⟨L1, rfl⟩ := D.dct _ hu
    subst hb2
    simp only [b_r2]
    generalize hb1 : b_r1 = r1
    have lR2 : (nP R).length = R.length := List.length_map _
    generalize hRR : nP R = RR at *
    dsimp! [hx, wO]
    refine st_nl h8 ?_
    dsimp! [hx, wO]
    refine .bnd ((forD_inv (fun j σ => ∃ (L : List (Nat × Nat)) (x9 x10 x11 x12 : Option PV), σ = [some (.dct L1), some (oneV n ts), some (.int (q : Nat)), some (.int (m : Nat)), some (.int 1), some (.int (q' : Nat)), some (.tup RR), some (.int (0 + (i : Int))), some (.lst (L.map prV)), x9, x10, x11, x12, none, none] ∧ L.length ≤ j ∧ j ≤ ts.length ∧ ∀ p ∈ L, p.1 ≤ 100 ∧ p.2 ≤ 100) ⟨[], _, _, _, _, rfl, by simp, by omega, by simp⟩ ?_).imp ?_)
    · rintro k x σ hk ⟨L, x9, x10, x11, x12, rfl, lL, kl, okL⟩
      obtain ⟨rfl, hk2⟩ := rng_at hk
      have ta := ot_at hk2
      have om : ot ts k ∈ ts := by simp only [ot, List.getD_eq_getElem?_getD, List.getElem?_eq_getElem hk2, Option.getD_some]; exact List.getElem_mem _
      obtain ⟨o1, o2, _, _⟩ := ok _ om
      generalize ot ts k = t at *
      have lP : (L.map prV).length = L.length := List.length_map _
      generalize hLP : L.map prV = LP at *
      have s1 : slP (.lst [.tup [.int (t.1 : Int), .int (t.2.1 : Int)], .tup [.int (t.2.1 : Int), .int (t.1 : Int)]]) none (some 1) = some (.own (.lst [.tup [.int (t.1 : Int), .int (t.2.1 : Int)]])) := sl_hL (k := 1)
      have ex : ∀ B : List PV, B.length ≤ 1 → methP .extend (.lst LP) [.lst B] = some (.non, .lst (LP ++ B)) := fun B h => by
        simp only [methP]
        rw [if_pos (by rw [lP]; simp only [lineM]; omega)]
      subst hb1
      simp only [b_r1, Int.zero_add]
      dsimp! [hx, wO, ta, s1]
      rw [show [PV.tup [.int (t.1 : Int), .int (t.2.1 : Int)]] = [t].map (fun t : OT => PV.tup [.int (t.1 : Int), .int (t.2.1 : Int)]) from rfl]
      by_cases c : t.1 = q'
      · have c1 : ((t.1 : Int) == (q' : Int)) = true := by rw [beq_iff_eq]; omega
        rw [compD_of (g := fun _ => some (prV (k, t.2.1))) (fun a ha => by
          rw [List.mem_singleton] at ha
          subst ha
          dsimp! [hx, c1]
          exact .ok ⟨rfl, rfl⟩)]
        have e1 := ex [prV (k, t.2.1)] (by simp)
        have lk1 : isLk (prV (k, t.2.1)) = false := rfl
        rw [show [t].filterMap (fun _ => some (prV (k, t.2.1))) = [prV (k, t.2.1)] from rfl]
        dsimp! [hx, e1, lk1]
        refine .ok ⟨.inl rfl, L ++ [(k, t.2.1)], _, _, _, _, by rw [List.map_append, hLP]; rfl, by simp; omega, by omega, fun p hp => ?_⟩
        rcases List.mem_append.mp hp with h | h
        · exact okL p h
        · rw [List.mem_singleton.mp h]; exact ⟨by dsimp only; omega, by dsimp only; omega⟩
      · have c1 : ((t.1 : Int) == (q' : Int)) = false := by rw [beq_eq_false_iff_ne]; omega
        rw [compD_of (g := fun _ => none) (fun a ha => by
          rw [List.mem_singleton] at ha
          subst ha
          dsimp! [hx, c1]
          exact .ok ⟨rfl, rfl⟩)]
        have e1 := ex [] (by simp)
        rw [show [t].filterMap (fun _ => (none : Option PV)) = [] from rfl]
        dsimp! [hx, e1]
        exact .ok ⟨.inl rfl, L, _, _, _, _, by rw [hLP, List.append_nil], by omega, by omega, okL⟩
    · rintro fl σ ⟨rfl, L, x9, x10, x11, x12, rfl, lL, kl, okL⟩
      rw [rng_len] at lL
      have nn := ne_prs (L := L) fun p hp => by have := okL p hp; omega
      have lP : (L.map prV).length = L.length := List.length_map _
      have at1 : ∀ {z : Nat}, (z : Int) < L.length → ∃ p ∈ L, atI (L.map prV) (z : Int) = some (.tup [.int (p.1 : Nat), .int (p.2 : Nat)]) := fun {z} h => ⟨L[z], List.getElem_mem _, by rw [at_nat, List.getElem?_map, List.getElem?_eq_getElem (by omega)]; rfl⟩
      by_cases c : L = []
      · have ce : L.isEmpty = true := by rw [c]; rfl
        rw [ce] at nn
        generalize hLP : L.map prV = LP at *
        dsimp! [hx, wO, nn]
        exact .ok ⟨.inl rfl, _, q', R, _, _, _, _, _, _, by rw [hRR], (by intro z; cases z), hq', by omega, by omega, okR, hu⟩
      · have ce : L.isEmpty = false := by simpa using c
        rw [ce] at nn
        have l0 : 0 < L.length := List.length_pos_iff.mpr c
        generalize hLP : L.map prV = LP at *
        simp_all! [hx, wO, nn, lP, D.sig]
        obtain ⟨p, hp, ap⟩ := at1 hr
        have op := okL p hp
        have eR : RR ++ [PV.int (p.1 : Nat)] = nP (R ++ [p.1]) := by rw [← hRR]; simp [nP]
        simp_all! [hx, wO, ap, lR2]
        rw [eR]
        refine .ok ⟨.inl rfl, _, p.2, R ++ [p.1], _, _, _, _, _, _, rfl, (by intro z; cases z), op.2, by simp; omega, by omega, fun k hk => ?_, hL⟩
        rcases List.mem_append.mp hk with h | h
        · exact okR k h
        · rw [List.mem_singleton.mp h]; exact op.1
  · rintro fl σ ⟨rfl, u, q', R, x7, x8, x9, x10, x11, x12, rfl, h8, hq', lR, ir, okR, hu⟩
    rw [rng_len] at lR
    obtain ⟨L1, rfl⟩ := D.dct _ hu
    generalize hRR : nP R = RR at *
    simp_all! [hx]
    exact ⟨R, q', _, by rw [hRR], rfl, by omega, okR, hu⟩
end L66
end Mn

set_option autoImplicit false
set_option maxHeartbeats 1000000
/-! L66d: rows bent (k66). -/
namespace Mn
namespace L66
open PySem L2 GD
open GA (gB gBs gBs_app gBs_sub gBs_up gB_up gBs_mem gBs_of gB_gP str_ok)
/-- 0 _law_feed_here, 1 _law_web, 2 _law_row_here, 3 _law_at, 4 _law_odd, 5 _law_some -/
def b_x_bent : List MS := [
  .asg (.nm 3) (.call "_law_draw" [.var 0, .bin .Add (.blt .len [.var 2]) (.c (.int 1))]),
  .asg (.nm 4) (.ix (.lst [.call "_law_draw" [.var 0, .c (.int 10)], .blt .len [.ix (.var 1) (.c (.int 1))], .neg (.c (.int 1)), .c (.bl true), .c .non, .c (.str "0"), .bin .Pow (.c (.int 10)) (.c (.int 39)), .tup [.c (.int 0)]]) (.call "_law_draw" [.var 0, .c (.int 8)])),
  .asg (.nm 5) (.lst [.bin .Add (.slH (.var 2) (.var 3)) (.slL (.var 2) (.bin .Add (.var 3) (.c (.int 1)))), .bin .Add (.bin .Add (.slH (.var 2) (.var 3)) (.tup [.var 4])) (.slL (.var 2) (.var 3)), .bin .Add (.bin .Add (.slH (.var 2) (.var 3)) (.tup [.var 4])) (.slL (.var 2) (.bin .Add (.var 3) (.c (.int 1)))), .rev (.var 2)]),
  .ret (.ix (.bin .Add (.var 5) (.lst [.blt .list [.var 2], .bin .Add (.var 2) (.var 2)])) (.call "_law_draw" [.var 0, .c (.int 6)]))]
def p_x_bent : FP := ⟨3, 6, b_x_bent, [.io, .sh, .sh, .sh, .sh, .sh], [.io, .pl, .pl], false⟩
def okY (z : Nat) (ys : List PV) : Prop := gBs (10 ^ 39 + 1) ys 0 = true ∧ hPs ys ≤ 1 ∧ zPs ys ≤ z
structure BentO (X : CQ) : Prop where
  sig : X.sig "_law_bent" = some ([.io, .pl, .pl], false)
  call : ∀ v n ts xs (z : Nat), Fd v → ts.length ≤ 100 → okY z xs → z ≤ 100000 → Evo (X.call "_law_bent" [v, oneV n ts, .tup xs]) fun o ios => ∃ w v', o = .val w ∧ ios = [v', oneV n ts, .tup xs] ∧ (∃ ys, (w = .tup ys ∨ w = .lst ys) ∧ okY (2 * z + 300) ys) ∧ Fd v'
theorem bento_ok {Γ : Str → Option FP} {gl : Str → Option MV} {W d : Nat} {c : Nat → Cls} (g : Γ "_law_bent" = some p_x_bent) (D : ∀ c, GD.Draw (cqOf Γ gl W d c)) : BentO (cqOf Γ gl W (d + 1) c) := by
  refine ⟨sig_eq g, fun v n ts xs z hv hl hy hz => ?_⟩
  dsimp only
  rw [run_eq g rfl rfl]
  generalize hX : cqOf Γ gl W d (clOf [.io, .sh, .sh, .sh, .sh, .sh]) = X
  have hx : X.cl = clOf [.io, .sh, .sh, .sh, .sh, .sh] := by rw [← hX]
  have D : DrawD "_law_draw" GD.Fd X := GDdraw (by rw [← hX]; exact D _)
  refine finQ_ev ?_
  obtain ⟨L0, rfl⟩ := D.dct _ hv
  obtain ⟨y1, y2, y3⟩ := hy
  have lx := len_zPs (a := xs)
  have p39 : binP .Pow (.int 10) (.int 39) = some (.val (.int (10 ^ 39))) := bp_pow (by decide)
  simp only [b_x_bent]
  simp_all! [hx, wO, D.sig, p39]
  refine st_atb (by simp; omega) fun o hm => ?_
  obtain ⟨o1, o2, o3, o4, o5⟩ : gB (10 ^ 39 + 1) o 0 = true ∧ hP o ≤ 1 ∧ zP o ≤ 60 ∧ isLk o = false ∧ isLD o = false := by
    revert o
    simp only [List.forall_mem_cons]
    refine ⟨?_, ?_, ?_, ?_, ?_, ?_, ?_, ?_, ?_⟩ <;> simp [gB, gBs, hP, hPs, zP, zPs, str_ok, isLk, isLD, show (Str.ofString "0").length = 1 from rfl] <;> omega
  clear hm
  have q : ∀ ys : List PV, (∀ v ∈ ys, v ∈ xs) → hPs ys ≤ 1 := fun ys h => hPs_sub y2 h
  have gq : ∀ ys : List PV, (∀ v ∈ ys, v ∈ xs) → gBs (10 ^ 39 + 1) ys 0 = true := fun ys h => gBs_sub y1 h
  have mt : ∀ j, ∀ v ∈ xs.take j, v ∈ xs := fun j v hv => List.mem_of_mem_take hv
  have md : ∀ j, ∀ v ∈ xs.drop j, v ∈ xs := fun j v hv => List.mem_of_mem_drop hv
  have z1 : ∀ j, zPs (xs.take j) ≤ zPs xs ∧ zPs (xs.drop j) ≤ zPs xs := fun j => by have := zPs_split (a := xs) (k := j); omega
  have six : ∀ (j : Nat) (w : PV), w ∈ [PV.tup (xs.take j ++ xs.drop (j + 1)), .tup (xs.take j ++ [o] ++ xs.drop j), .tup (xs.take j ++ [o] ++ xs.drop (j + 1)), .tup xs.reverse, .lst xs, .tup (xs ++ xs)] → ∃ ys, (w = .tup ys ∨ w = .lst ys) ∧ okY (2 * z + 300) ys := by
    intro j
    have a1 := q _ (mt j); have a2 := q _ (md j); have a3 := q _ (md (j + 1)); have b1 := gq _ (mt j); have b2 := gq _ (md j); have b3 := gq _ (md (j + 1))
    have c1 := (z1 j).1; have c2 := (z1 j).2; have c3 := (z1 (j + 1)).2
    have r1 : ∀ v ∈ xs.reverse, v ∈ xs := fun v hv => by simpa using hv
    simp only [List.forall_mem_cons]
    refine ⟨⟨_, .inl rfl, ?_⟩, ⟨_, .inl rfl, ?_⟩, ⟨_, .inl rfl, ?_⟩, ⟨_, .inl rfl, ?_⟩, ⟨_, .inr rfl, ?_⟩, ⟨_, .inl rfl, ?_⟩, by simp⟩
    · exact ⟨by simp only [gBs_app, b1, b3, Bool.and_self], by simp only [hPs_app]; omega, by simp only [zPs_app]; omega⟩
    · exact ⟨by simp only [gBs_app, gBs, b1, b2, o1, Bool.and_self], by simp only [hPs_app, hPs]; omega, by simp only [zPs_app, zPs]; omega⟩
    · exact ⟨by simp only [gBs_app, gBs, b1, b3, o1, Bool.and_self], by simp only [hPs_app, hPs]; omega, by simp only [zPs_app, zPs]; omega⟩
    · exact ⟨gq _ r1, q _ r1, by rw [zPs_rev]; omega⟩
    · exact ⟨y1, y2, by omega⟩
    · exact ⟨by simp only [gBs_app, y1, Bool.and_self], by simp only [hPs_app]; omega, by simp only [zPs_app]; omega⟩
  simp_all! [hx, wO, D.sig, o4, o5, rv_tup, rd_any o4]
  refine st_atb (by simp; omega) fun w hm => ?_
  have w0 : isLk w = false := by
    revert w
    simp only [List.forall_mem_cons]
    exact ⟨rfl, rfl, rfl, rfl, rfl, rfl, by simp⟩
  simp_all! [hx, w0]
  exact ⟨w, _, rfl, rfl, six _ w hm, hL⟩
end L66
end Mn

set_option autoImplicit false
set_option maxHeartbeats 1000000
/-! L66e: law k66 over trees. -/
namespace Mn
namespace L66
open PySem L2 GD
open GA (gB gBs gBs_app gBs_sub gBs_up gB_up gBs_mem gBs_of gB_gP str_ok)
def b_ck : List MS := [
      .ite (.cmp .NotEq (.blt .repr [.call "_law_told" [.var 3, .var 4, .var 8]]) (.blt .repr [.call "_law_due" [.var 3, .var 4, .var 8]])) [
        .ret (.c (.bl false))] []]
def b_k66 : List MS := [
    .asg (.nm 3) (.call "_law_oneway" [.var 1, .ix (.lst [.c (.int 6), .c (.int 9)]) (.var 2), .ix (.lst [.c (.int 9), .c (.int 16)]) (.var 2)]),
    .asg (.nm 4) (.call "_law_draw" [.var 1, .ix (.var 3) (.c (.int 0))]),
    .asg (.nm 5) (.ix (.call "_law_row" [.var 1, .var 3, .var 4, .ix (.lst [.c (.int 6), .c (.int 40)]) (.var 2), .c (.int 1)]) (.c (.int 0))),
    .asg (.nm 6) (.bin .Add (.lst [.var 5, .tup [], .c .non, .c (.int 0), .c (.str ""), .lst []]) (.lc (.call "_law_bent" [.var 1, .var 3, .var 5]) (.nm 7) .rng1 (.c (.int 8)) (.c .non) [] [7])),
    .asg (.nm 6) (.bin .Add (.bin .Add (.var 6) (.lc (.call "_law_bent" [.var 1, .var 3, .var 8]) (.nm 8) .val (.slL (.var 6) (.c (.int 6))) (.c .non) [.isi (.var 8) .tuple] [8])) (.lst [.var 5])),
    .ite (.cmp .NotEq (.ix (.var 3) (.c (.int 1))) (.tup [])) [
      .asg (.nm 6) (.bin .Add (.var 6) (.lc (.bin .Mult (.tup [.c (.int 0)]) (.var 9)) (.nm 9) .val (.tup [.c (.int 1), .c (.int 400), .c (.int 401)]) (.c .non) [] [9]))] [],
    .for_ (.nm 8) .val (.var 6) (.c .non) b_ck]
/-- 0 _law_script, 1 _law_feed_here, 2 _law_turn, 3 _law_web, 4 _law_start, 5 _law_row_here, 6 _law_things, 7 _law_k, 8 _law_thing, 9 _law_many, 10 _law_both -/
def b_law : List MS := [
  .asg (.nm 1) (.call "_law_feed" [.var 0]),
  .for_ (.nm 2) .rng1 (.c (.int 2)) (.c .non) b_k66,
  .asg (.nm 10) (.tup [.c (.int 2), .tup [.tup [.c (.int 0), .c (.int 1), .c (.int 1)], .tup [.c (.int 1), .c (.int 0), .c (.int 1)]]]),
  .ret (.and_ (.cmp .Eq (.call "_law_told" [.var 10, .c (.int 0), .bin .Mult (.tup [.c (.int 0), .c (.int 1)]) (.c (.int 200))]) (.c (.int 0))) (.cmp .Eq (.call "_law_told" [.var 10, .c (.int 0), .bin .Add (.bin .Mult (.tup [.c (.int 0), .c (.int 1)]) (.c (.int 200))) (.tup [.c (.int 0)])]) (.lst [.c (.int 0)])))]
def lcl : List Cls := [.sh, .ow, .sh, .sh, .sh, .sh, .sh, .sh, .sh, .sh, .sh]
def p_law : FP := ⟨1, 11, b_law, lcl, [.pl], false⟩
structure AllX (X : CQ) : Prop where
  D : DrawD "_law_draw" GD.Fd X
  W : GD.OneW X
  R : RowD X
  B : BentO X
  T : LTold X
  U : LDue X
def okT (v : PV) : Prop := gB (10 ^ 39 + 1) v 1 = true ∧ hP v ≤ 3 ∧ zP v ≤ 100000
theorem okT.gd {v : PV} (h : okT v) : Gd v := ⟨gB_gP (by decide) (gB_up (Nat.le_refl _) h.1 (by decide)), by have := h.2.1; omega⟩
theorem okY.t {z : Nat} {ys : List PV} (h : okY z ys) (hz : z ≤ 90000) : okT (.tup ys) ∧ okT (.lst ys) := by
  obtain ⟨a, b, c⟩ := h
  exact ⟨⟨by simp only [gB]; exact gBs_up (Nat.le_refl _) a (by decide), by simp only [hP]; omega, by simp only [zP]; omega⟩, ⟨by simp only [gB]; exact a, by simp only [hP]; omega, by simp only [zP]; omega⟩⟩
theorem wlk_le {ts : List OT} {n : Nat} (ok : ∀ t ∈ ts, GD.okO n t) (hn : n ≤ 100) : ∀ {xs : List PV} {i q : Nat}, q ≤ 100 → match wlk ts i q xs with
    | .inr r => r ≤ 100
    | .inl k => k ≤ i + xs.length
  | [], i, q, hq => hq
  | v :: vs, i, q, hq => by
    simp only [wlk]
    cases hg : goes ts q v with
    | none => simp only [List.length_cons]; omega
    | some r =>
      have hr : r ≤ 100 := by
        rcases goes_cases (ts := ts) (q := q) (v := v) with ⟨k, rfl, hk, eg⟩ | ⟨_, eg⟩
        · rw [eg] at hg
          split at hg
          · cases hg
            have om : ot ts k ∈ ts := by simp only [ot, List.getD_eq_getElem?_getD, List.getElem?_eq_getElem hk, Option.getD_some]; exact List.getElem_mem _
            have := (ok _ om).2.1
            omega
          · cases hg
        · rw [eg] at hg; cases hg
      have := wlk_le ok hn (xs := vs) (i := i + 1) hr
      revert this
      dsimp only
      cases wlk ts (i + 1) r vs with
      | inr r => exact id
      | inl k => intro h; simp only [List.length_cons] at h ⊢; omega
theorem due_gd {ts : List OT} {n q : Nat} {v : PV} (ok : ∀ t ∈ ts, GD.okO n t) (hn : n ≤ 100) (hq : q ≤ 100) : Gd (dueV ts q v) ∧ zP (dueV ts q v) ≤ 1000 := by
  have gi : ∀ k : Nat, k ≤ 10000 → Gd (.int (k : Int)) ∧ zP (.int (k : Int)) ≤ 1000 := fun k h => ⟨⟨by simp only [gP, decide_eq_true_eq]; omega, by simp [hP]⟩, by simp [zP]⟩
  have gl : ∀ k : Nat, k ≤ 10000 → Gd (.lst [.int (k : Int)]) ∧ zP (.lst [.int (k : Int)]) ≤ 1000 := fun k h => ⟨⟨by simp only [gP, gPs, Bool.and_true, decide_eq_true_eq]; omega, by simp [hP, hPs]⟩, by simp [zP, zPs]⟩
  cases v with
  | tup xs =>
    simp only [dueV]
    split
    · rename_i hl
      have := wlk_le ok hn (xs := xs) (i := 0) hq
      revert this
      cases wlk ts 0 q xs with
      | inr r => exact fun h => gi r (by dsimp only at h; omega)
      | inl k => exact fun h => gl k (by dsimp only at h; omega)
    · exact gl 0 (by omega)
  | _ => exact gl 0 (by omega)
theorem check_ok {X : CQ} (hx : X.cl = clOf lcl) (A : AllX X) {s0 s1 s2 s5 s6 s7 s9 s10 : Option PV} {n : Nat} {ts : List OT} {q : Nat} {v : PV} (ok : ∀ t ∈ ts, GD.okO n t) (hn : n ≤ 100) (hq : q ≤ 100) (hv : okT v) :
    Evq (evTs' X b_ck [s0, s1, s2, some (oneV n ts), some (.int (q : Nat)), s5, s6, s7, some v, s9, s10]) fun fl σ => fl = .nx ∧ σ = [s0, s1, s2, some (oneV n ts), some (.int (q : Nat)), s5, s6, s7, some v, s9, s10] := by
  obtain ⟨D, W, R, B, T, U⟩ := A
  replace hx : X.cl = clOf [.sh, .ow, .sh, .sh, .sh, .sh, .sh, .sh, .sh, .sh, .sh] := hx
  have g1 := hv.gd
  have e1 := T.call n ts q v g1
  have e2 := U.call n ts q v g1
  obtain ⟨a1, a2⟩ := due_gd (v := v) ok hn hq
  have ra := repr_g a1 (by omega)
  have l1 := g1.lk
  have l2 := a1.lk
  generalize (tP (dueV ts q v)).shown = sA at *
  generalize dueV ts q v = dv at *
  simp only [b_ck]
  dsimp! [hx, wO, T.sig, U.sig, e1, e2, ra, cb, l1, l2, rd_any l1, rd_any l2]
  exact .ok ⟨rfl, rfl⟩
theorem checks_ok {X : CQ} (hx : X.cl = clOf lcl) (A : AllX X) {s0 s1 s2 s5 s7 s8 s9 s10 : Option PV} {n : Nat} {ts : List OT} {q : Nat} {L : List PV} (ok : ∀ t ∈ ts, GD.okO n t) (hn : n ≤ 100) (hq : q ≤ 100) (hL : ∀ v ∈ L, okT v) :
    Evq (evTs' X [.for_ (.nm 8) .val (.var 6) (.c .non) b_ck] [s0, s1, s2, some (oneV n ts), some (.int (q : Nat)), s5, some (.lst L), s7, s8, s9, s10]) fun fl σ => fl = .nx ∧ ∃ y8, σ = [s0, s1, s2, some (oneV n ts), some (.int (q : Nat)), s5, some (.lst L), s7, y8, s9, s10] := by
  have hx' := hx
  replace hx : X.cl = clOf [.sh, .ow, .sh, .sh, .sh, .sh, .sh, .sh, .sh, .sh, .sh] := hx
  generalize hb2 : b_ck = g2
  dsimp! [hx]
  refine .bnd ((forD_inv (fun i σ => ∃ y8, σ = [s0, s1, s2, some (oneV n ts), some (.int (q : Nat)), s5, some (.lst L), s7, y8, s9, s10]) ⟨_, rfl⟩ ?_).imp ?_)
  · rintro i x σ hi ⟨y8, rfl⟩
    have o := hL x (List.mem_of_getElem? hi)
    subst hb2
    simp only [hx, asgP, clOf, List.getElem?_cons_succ, List.getElem?_cons_zero, Option.getD_some, fs_some, List.set_cons_succ, List.set_cons_zero]
    refine (check_ok hx' A ok hn hq o).imp ?_
    rintro fl σ ⟨rfl, rfl⟩
    exact ⟨.inl rfl, _, rfl⟩
  · rintro fl σ ⟨rfl, y8, rfl⟩
    dsimp! [hx]
    exact .ok ⟨rfl, _, rfl⟩
theorem ne_ties {n : Nat} {ts : List OT} (ok : ∀ t ∈ ts, GD.okO n t) (hn : n ≤ 100) : cmpP .NotEq (.tup (ts.map otie)) (.tup []) = some (!ts.isEmpty) := by
  have g : gP (.tup (ts.map otie)) 6 = true := by
    simp only [gP]
    exact gPs_of fun v hv => by
      obtain ⟨t, ht, rfl⟩ := List.mem_map.mp hv
      obtain ⟨a, b, _, c⟩ := ok t ht
      simp only [otie, gP, gPs, Bool.and_true, Bool.and_eq_true, decide_eq_true_eq]; omega
  have d : hP (.tup (ts.map otie)) ≤ 60 := by
    have : hPs (ts.map otie) ≤ 1 := hPs_of fun v hv => by
      obtain ⟨t, ht, rfl⟩ := List.mem_map.mp hv
      simp [otie, hP, hPs]
    simp only [hP]; omega
  simp only [cmpP, eq_p g d (w := .tup []) rfl (by decide) (.inl rfl), tP, Option.map_some]
  cases ts with
  | nil => rfl
  | cons x xs => simp [tPs, PyData.eqv, PyData.eqvAll]
end L66
end Mn

set_option autoImplicit false
set_option maxHeartbeats 1000000
/-! L66f: law k66, a round and the whole. -/
namespace Mn
namespace L66
open PySem L2 GD
open GA (gB gBs gBs_app gBs_sub gBs_up gB_up gBs_mem gBs_of gB_gP str_ok)
def okB (z : Nat) (w : PV) : Prop := ∃ ys, (w = .tup ys ∨ w = .lst ys) ∧ okY z ys
theorem okB.t {z : Nat} {w : PV} (h : okB z w) (hz : z ≤ 90000) : okT w := by
  obtain ⟨ys, rfl | rfl, h⟩ := h
  · exact (h.t hz).1
  · exact (h.t hz).2
def zz (k : Nat) : PV := .tup (List.replicate k (.int 0))
theorem zz_ok {k : Nat} (h : k ≤ 500) : okT (zz k) := by
  have r : ∀ k, gBs (10 ^ 39 + 1) (List.replicate k (PV.int 0)) 0 = true ∧ hPs (List.replicate k (PV.int 0)) ≤ 0 ∧ zPs (List.replicate k (PV.int 0)) = 48 * k := by
    intro k
    induction k with
    | zero => exact ⟨rfl, by simp [hPs], rfl⟩
    | succ k ih =>
      obtain ⟨a, b, c⟩ := ih
      rw [List.replicate_succ]
      exact ⟨by simp only [gBs, a, Bool.and_true]; decide, by simp only [hPs, hP]; omega, by simp only [zPs, zP, c]; omega⟩
  obtain ⟨a, b, c⟩ := r k
  exact ⟨by simp only [zz, gB]; exact gBs_up (Nat.le_refl _) a (by decide), by simp only [zz, hP]; omega, by simp only [zz, zP, c]; omega⟩
theorem mul_zz {k : Nat} (h1 : 1 ≤ k) (h2 : k ≤ 1000) : binP .Mult (.tup [.int 0]) (.int (k : Int)) = some (.val (zz k)) := by
  by_cases c : k = 1
  · subst c
    simp only [binP]
    rw [if_neg (by omega), if_pos (by decide)]
    rfl
  · rw [bp_mulT ⟨by omega, by omega, by simp, by simp⟩, Int.toNat_natCast, List.flatten_replicate_singleton]
    rfl
theorem round_ok {X : CQ} (hx : X.cl = clOf lcl) (A : AllX X) {i : Nat} (hi : i < 2) {u : PV} {s0 s3 s4 s5 s6 s8 s10 : Option PV} (hu : Fd u) :
    Evq (evTs' X b_k66 [s0, some u, some (.int (i : Int)), s3, s4, s5, s6, none, s8, none, s10]) fun fl σ => fl = .nx ∧ ∃ (u : PV) (s2 s3 s4 s5 s6 s8 : Option PV), Fd u ∧ σ = [s0, some u, s2, s3, s4, s5, s6, none, s8, none, s10] := by
  have hx' := hx
  have A' := A
  obtain ⟨D, W, R, B, Tt, U⟩ := A
  replace hx : X.cl = clOf [.sh, .ow, .sh, .sh, .sh, .sh, .sh, .sh, .sh, .sh, .sh] := hx
  obtain ⟨L0, rfl⟩ := D.dct _ hu
  obtain ⟨p, m, r, a1, a2, a3, p1, p2, m2, r2⟩ : ∃ p m r : Nat, atI [PV.int 6, PV.int 9] (i : Int) = some (.int (p : Int)) ∧ atI [PV.int 9, PV.int 16] (i : Int) = some (.int (m : Int)) ∧ atI [PV.int 6, PV.int 40] (i : Int) = some (.int (r : Int)) ∧ 1 ≤ p ∧ p ≤ m ∧ m ≤ 16 ∧ r ≤ 40 := by
    rcases Nat.lt_or_ge i 1 with h | h
    · obtain rfl : i = 0 := by omega
      exact ⟨6, 9, 6, rfl, rfl, rfl, by decide, by decide, by decide, by decide⟩
    · obtain rfl : i = 1 := by omega
      exact ⟨9, 16, 40, rfl, rfl, rfl, by decide, by decide, by decide, by decide⟩
  obtain ⟨n, ts, v1, e1, n1, n2, tl, tok, hv1⟩ := W.call _ p m hu p1 (by omega) p2 (by omega)
  obtain ⟨L1, rfl⟩ := D.dct _ hv1
  have i0 : ixP (oneV n ts) (.int 0) = some (.int (n : Nat)) := rfl
  rw [tk 6, show b_k66.drop 6 = [.for_ (.nm 8) .val (.var 6) (.c .non) b_ck] from rfl]
  refine .bnd (Evq.imp (R := fun fl σ => fl = .nx ∧ ∃ (u : PV) (q : Nat) (s5 s8 : Option PV) (L : List PV), σ = [s0, some u, some (.int (i : Int)), some (oneV n ts), some (.int (q : Nat)), s5, some (.lst L), none, s8, none, s10] ∧ Fd u ∧ q ≤ 100 ∧ ∀ v ∈ L, okT v) ?_ ?_)
  · simp only [b_k66, List.take_succ_cons, List.take_zero]
    simp_all! [hx, wO, W.sig, a1, a2, e1, cb, i0, D.sig, R.sig, a3]
    rename Nat => q
    refine st_call (R.call _ n ts q r hL (by omega) (by omega) tok (by omega) (by omega)) ?_
    rintro _ _ ⟨Rw, pp, v2, rfl, rfl, lR, okR, hv2⟩
    obtain ⟨L2, rfl⟩ := D.dct _ hv2
    have y0 : okY 2000 (nP Rw) := by
      refine ⟨gBs_of fun v hv => ?_, hPs_of fun v hv => ?_, ?_⟩
      · obtain ⟨k, hk, rfl⟩ := List.mem_map.mp hv
        have := okR k hk
        simp only [gB, decide_eq_true_eq]; omega
      · obtain ⟨k, hk, rfl⟩ := List.mem_map.mp hv
        simp [hP]
      · have : ∀ K : List Nat, zPs (nP K) = 48 * K.length := fun K => by
          induction K with
          | nil => rfl
          | cons k K ih => simp only [nP, List.map_cons, zPs, zP, List.length_cons] at ih ⊢; rw [ih]; omega
        rw [this]; omega
    generalize nP Rw = RR at *
    have i8 : (8 : Int).toNat = 8 := rfl
    dsimp! [hx, wO, i8]
    refine .bnd (compD_inv (fun j ys σ => ∃ (u : PV), (∀ w ∈ ys, okB 4300 w) ∧ ys.length = j ∧ Fd u ∧ σ = [s0, some u, some (.int (i : Int)), some (oneV n ts), some (.int (q : Nat)), some (.tup RR), s6, none, s8, none, s10]) ⟨_, by simp, rfl, hv2, by dsimp! [hx]⟩ ?_ ?_)
    · rintro j v ys σ hj ⟨u, oy, lj, hu, rfl⟩
      obtain ⟨rfl, hj2⟩ := rng_at hj
      obtain ⟨L3, rfl⟩ := D.dct _ hu
      simp_all! [hx, wO, B.sig]
      refine st_call (B.call _ n ts RR 2000 hu (by omega) y0 (by omega)) ?_
      rintro _ _ ⟨w, v3, rfl, rfl, hw, hv3⟩
      obtain ⟨L4, rfl⟩ := D.dct _ hv3
      have ob : okB 4300 w := hw
      have lw : isLk w = false := (ob.t (by decide)).gd.lk
      simp_all! [hx, wO, lw]
      refine .ok ⟨_, fun x hx => ?_, by simp [lj], hv3, by rfl⟩
      rcases List.mem_append.mp hx with h | h
      · exact oy x h
      · simp at h; rw [h]; exact ob
    · rintro ys τ ⟨u, oy, lj, hu, rfl⟩
      rw [rng_len] at lj
      obtain ⟨L3, rfl⟩ := D.dct _ hu
      have sl : slP (.lst (PV.tup RR :: PV.tup [] :: PV.non :: PV.int 0 :: PV.str "" :: PV.lst [] :: ys)) (some 6) none = some (.own (.lst ys)) := by
        have := sl_lL (xs := PV.tup RR :: PV.tup [] :: PV.non :: PV.int 0 :: PV.str "" :: PV.lst [] :: ys) (k := 6)
        rw [show ((6 : Nat) : Int) = 6 from rfl] at this
        rw [this]; rfl
      have tt : okT (.tup RR) := (y0.t (by decide)).1
      have ok6 : ∀ v ∈ PV.tup RR :: PV.tup [] :: PV.non :: PV.int 0 :: PV.str "" :: PV.lst [] :: ys, okT v := fun v hv => by
        rcases List.mem_append.mp (show v ∈ [PV.tup RR, .tup [], .non, .int 0, .str "", .lst []] ++ ys from hv) with h | h
        · revert v
          intro v _ h
          simp only [List.mem_cons, List.not_mem_nil, or_false] at h
          rcases h with rfl | rfl | rfl | rfl | rfl | rfl
          · exact tt
          all_goals exact ⟨by first | rfl | exact str_ok _ | decide, by simp [hP, hPs], by simp [zP, zPs, show (Str.ofString "").length = 0 from rfl]⟩
        · exact (oy v h).t (by decide)
      have l6 : (PV.tup RR :: PV.tup [] :: PV.non :: PV.int 0 :: PV.str "" :: PV.lst [] :: ys).length = 14 := by simp [lj]
      dsimp! [hx, wO, lj]
      generalize PV.tup RR :: PV.tup [] :: PV.non :: PV.int 0 :: PV.str "" :: PV.lst [] :: ys = L6 at *
      dsimp! [hx, wO, sl, lj]
      refine .bnd (compD_inv (fun j zs σ => ∃ (u : PV), (∀ w ∈ zs, okB 9000 w) ∧ zs.length ≤ j ∧ Fd u ∧ σ = [s0, some u, some (.int (i : Int)), some (oneV n ts), some (.int (q : Nat)), some (.tup RR), some (.lst L6), none, none, none, s10]) ⟨_, by simp, by simp, hu, by dsimp! [hx]⟩ ?_ ?_)
      · rintro j v zs σ hj ⟨u, oz, lz, hu, rfl⟩
        obtain ⟨L4, rfl⟩ := D.dct _ hu
        obtain ⟨Y, hv | hv, hY⟩ := oy v (List.mem_of_getElem? hj)
        · subst hv
          simp_all! [hx, wO, B.sig]
          refine st_call (B.call _ n ts Y 4300 hu (by omega) hY (by omega)) ?_
          rintro _ _ ⟨w, v3, rfl, rfl, hw, hv3⟩
          obtain ⟨L5, rfl⟩ := D.dct _ hv3
          have ob : okB 9000 w := by
            obtain ⟨ys', h1, h2, h3, h4⟩ := hw
            exact ⟨ys', h1, h2, h3, by omega⟩
          have lw : isLk w = false := (ob.t (by decide)).gd.lk
          simp_all! [hx, wO, lw]
          refine .ok ⟨_, fun x hx => ?_, by simp; omega, hv3, by rfl⟩
          rcases List.mem_append.mp hx with h | h
          · exact oz x h
          · simp at h; rw [h]; exact ob
        · subst hv
          simp_all! [hx, wO]
          exact .ok ⟨_, by simpa using oz, by simp; omega, hu, by rfl⟩
      · rintro zs τ ⟨u, oz, lz, hu, rfl⟩
        obtain ⟨L4, rfl⟩ := D.dct _ hu
        have ok7 : ∀ v ∈ L6 ++ zs ++ [.tup RR], okT v := fun v hv => by
          rcases List.mem_append.mp hv with h | h
          · rcases List.mem_append.mp h with h | h
            · exact ok6 v h
            · exact (oz v h).t (by decide)
          · rw [List.mem_singleton.mp h]; exact tt
        have l7 : (L6 ++ zs ++ [PV.tup RR]).length ≤ 100 := by simp; omega
        have nt := ne_ties tok (by omega)
        have tl2 : (ts.map otie).length = ts.length := List.length_map _
        cases he : ts.isEmpty
        · rw [he] at nt
          generalize hTT : ts.map otie = TT at *
          have ix1 : ixP (oneV n ts) (.int 1) = some (.tup TT) := by rw [← hTT]; rfl
          have lk1 : isLk (oneV n ts) = false := rfl
          have l8 : (L6 ++ zs).length ≤ 90 := by simp; omega
          dsimp! [hx, ix1, lk1, nt, l6, l8]
          rw [show [PV.int 1, .int 400, .int 401] = [1, 400, 401].map (fun k : Nat => PV.int (k : Int)) from rfl]
          rw [compD_of (g := fun k : Nat => some (zz k)) (fun k hk => by
            have m1 := mul_zz (k := k) (by simp at hk; omega) (by simp at hk; omega)
            dsimp! [hx, m1]
            exact .ok ⟨rfl, rfl⟩)]
          rw [show [1, 400, 401].filterMap (fun k : Nat => some (zz k)) = [zz 1, zz 400, zz 401] from rfl]
          dsimp! [hx]
          refine .ok ⟨rfl, _, q, _, _, _, rfl, hu, by omega, fun v hv => ?_⟩
          rcases List.mem_append.mp hv with h | h
          · exact ok7 v h
          · simp only [List.mem_cons, List.not_mem_nil, or_false] at h
            rcases h with rfl | rfl | rfl
            · exact zz_ok (by decide)
            · exact zz_ok (by decide)
            · exact zz_ok (by decide)
        · rw [he] at nt
          generalize hTT : ts.map otie = TT at *
          have ix1 : ixP (oneV n ts) (.int 1) = some (.tup TT) := by rw [← hTT]; rfl
          have lk1 : isLk (oneV n ts) = false := rfl
          have l8 : (L6 ++ zs).length ≤ 90 := by simp; omega
          dsimp! [hx, ix1, lk1, nt, l6, l8]
          exact .ok ⟨rfl, _, q, _, _, _, rfl, hu, by omega, ok7⟩
  · rintro fl σ ⟨rfl, u, q, s5, s8, L, rfl, hu, hq, hL⟩
    rw [th_nx]
    refine (checks_ok hx' A' tok (by omega) hq hL).imp ?_
    rintro fl σ ⟨rfl, y8, rfl⟩
    exact ⟨rfl, u, _, _, _, _, _, _, hu, rfl⟩
/-! there and back, two hundred times -/
def tb : List OT := [(0, 1, 1), (1, 0, 1)]
theorem wlk_tb : ∀ (m i : Nat), wlk tb i 0 (List.replicate m [PV.int 0, .int 1]).flatten = .inr 0
  | 0, i => rfl
  | m + 1, i => by
    rw [List.replicate_succ, List.flatten_cons]
    show wlk tb i 0 (.int 0 :: .int 1 :: (List.replicate m [PV.int 0, .int 1]).flatten) = _
    have g1 : goes tb 0 (.int 0) = some 1 := by decide
    have g2 : goes tb 1 (.int 1) = some 0 := by decide
    simp only [wlk, g1, g2]
    exact wlk_tb m _
theorem law_ok {Γ : Str → Option FP} {gl : Str → Option MV} {W d : Nat} (g : Γ "law" = some p_law) (ns : List Int)
    (F : ∀ c, GD.Feed (cqOf Γ gl W d c)) (A : ∀ c, AllX (cqOf Γ gl W d c)) :
    ∃ o ios, runP Γ gl W (d + 1) "law" [.fro (ns.map .int)] = .ok o ios ∧ o.v = .bl true := by
  rw [run_eq g rfl rfl]
  generalize hX : cqOf Γ gl W d (clOf lcl) = X
  have hx' : X.cl = clOf lcl := by rw [← hX]
  have hx : X.cl = clOf [.sh, .ow, .sh, .sh, .sh, .sh, .sh, .sh, .sh, .sh, .sh] := hx'
  have F : GD.Feed X := by rw [← hX]; exact F _
  have A : AllX X := by rw [← hX]; exact A _
  have D := A.D
  suffices h : Evo (finQ [.pl] false [.fro (ns.map .int)] (evTs' X b_law [some (.fro (ns.map .int)), none, none, none, none, none, none, none, none, none, none])) fun o ios => o.v = .bl true by
    obtain ⟨o, ios, e, h⟩ := h
    exact ⟨o, ios, e, h⟩
  refine finQ_ev ?_
  obtain ⟨v, e0, hv⟩ := F.call ns
  obtain ⟨L0, rfl⟩ := D.dct _ hv
  have i2 : (2 : Int).toNat = 2 := rfl
  simp only [b_law]
  generalize hbt : b_k66 = bt
  dsimp! [hx, F.sig, e0, i2]
  refine .bnd ((forD_inv (fun i σ => ∃ (u : PV) (s2 s3 s4 s5 s6 s8 : Option PV), Fd u ∧ σ = [some (.fro (ns.map .int)), some u, s2, s3, s4, s5, s6, none, s8, none, none]) ⟨_, _, _, _, _, _, _, hv, rfl⟩ ?_).imp ?_)
  · rintro i x σ hi ⟨u, s2, s3, s4, s5, s6, s8, hu, rfl⟩
    obtain ⟨rfl, hi2⟩ := rng_at hi
    subst hbt
    rw [Int.zero_add]
    simp_all?! [hx]
    refine (round_ok hx' A hi2 hu).imp ?_
    rintro fl σ ⟨rfl, u, s2, s3, s4, s5, s6, s8, hu, rfl⟩
    exact ⟨.inl rfl, u, _, _, _, _, _, _, hu, rfl⟩
  · rintro fl σ ⟨rfl, u, s2, s3, s4, s5, s6, s8, hu, rfl⟩
    obtain ⟨L, rfl⟩ := D.dct _ hu
    have len : ((List.replicate 200 [PV.int 0, .int 1]).flatten).length = 400 := by simp
    have d1 : dueV tb 0 (.tup (List.replicate 200 [PV.int 0, .int 1]).flatten) = .int 0 := by
      simp only [dueV]
      rw [if_pos (by rw [len]; exact Nat.le_refl _), wlk_tb]
      rfl
    have d2 : dueV tb 0 (.tup ((List.replicate 200 [PV.int 0, .int 1]).flatten ++ [.int 0])) = .lst [.int 0] := by
      simp only [dueV]
      rw [if_neg (by rw [List.length_append, len]; decide)]
    have m1 : binP .Mult (.tup [.int 0, .int 1]) (.int 200) = some (.val (.tup (List.replicate 200 [PV.int 0, .int 1]).flatten)) := bp_mulT (by decide)
    have gs : ∀ ys : List PV, (∀ v ∈ ys, v = .int 0 ∨ v = .int 1) → Gd (.tup ys) := fun ys h => ⟨by
      simp only [gP]
      exact gPs_of fun v hv => by rcases h v hv with rfl | rfl <;> decide, by
      have : hPs ys ≤ 0 := hPs_of fun v hv => by rcases h v hv with rfl | rfl <;> simp [hP]
      simp only [hP]; omega⟩
    have mem : ∀ v ∈ (List.replicate 200 [PV.int 0, .int 1]).flatten, v = .int 0 ∨ v = .int 1 := fun v hv => by
      obtain ⟨l, hl, hv⟩ := List.mem_flatten.mp hv
      rw [List.eq_of_mem_replicate hl] at hv
      simpa using hv
    have t1 := A.T.call 2 tb 0 _ (gs _ mem)
    have t2 := A.T.call 2 tb 0 (.tup ((List.replicate 200 [PV.int 0, .int 1]).flatten ++ [.int 0])) (gs _ fun v hv => by
      rcases List.mem_append.mp hv with h | h
      · exact mem v h
      · rw [List.mem_singleton.mp h]; exact .inl rfl)
    rw [d1] at t1
    rw [d2] at t2
    have et : oneV 2 tb = .tup [.int 2, .tup [.tup [.int 0, .int 1, .int 1], .tup [.int 1, .int 0, .int 1]]] := rfl
    rw [et] at t1 t2
    have q1 : cmpP .Eq (.int 0) (.int 0) = some true := by decide
    have q2 : cmpP .Eq (.lst [.int 0]) (.lst [.int 0]) = some true := by decide
    generalize (List.replicate 200 [PV.int 0, .int 1]).flatten = Z at *
    have T := A.T
    replace t1 : X.call "_law_told" [.tup [.int 2, .tup [.tup [.int 0, .int 1, .int 1], .tup [.int 1, .int 0, .int 1]]], .int 0, .tup Z] = .ok (.val (.int 0)) [.tup [.int 2, .tup [.tup [.int 0, .int 1, .int 1], .tup [.int 1, .int 0, .int 1]]], .int 0, .tup Z] := t1
    replace t2 : X.call "_law_told" [.tup [.int 2, .tup [.tup [.int 0, .int 1, .int 1], .tup [.int 1, .int 0, .int 1]]], .int 0, .tup (Z ++ [.int 0])] = .ok (.val (.lst [.int 0])) [.tup [.int 2, .tup [.tup [.int 0, .int 1, .int 1], .tup [.int 1, .int 0, .int 1]]], .int 0, .tup (Z ++ [.int 0])] := t2
    simp_all! [hx, T.sig, m1, t1, t2, cb, q1, q2, len]
end L66
end Mn

set_option autoImplicit true
namespace K66
open PySem PySem.Spec PyProof.Rows L2 Mn
def topS (i : Nat) : Stmt := PySem.Challenge.pw_oddjoins_k66_oneway_rows_walked.main.body.getD i (.Pass ⟨0, 0, 0, 0⟩)
def b_is_within : List MS := [
  .ret (.and_ (.isi (.var 0) .int) (.and_ (.not_ (.isi (.var 0) .bool)) (.chain .LtE .LtE (.var 1) (.var 0) (.var 2))))]
def b_oneway_walked : List MS := [
  .ite (.or_ (.not_ (.isi (.var 2) .tuple)) (.cmp .Gt (.blt .len [.var 2]) (.glb "MOST_STEPS"))) [
    .raise "NoWalk" [.c (.int 0)]] [],
  .asg (.nm 3) (.var 1),
  .for_ (.tp [.nm 4, .nm 5]) .enum (.var 2) (.c .non) [
    .ite (.or_ (.not_ (.call "is_within" [.var 5, .c (.int 0), .bin .Sub (.blt .len [.ix (.var 0) (.c (.int 1))]) (.c (.int 1))])) (.cmp .NotEq (.ix (.ix (.ix (.var 0) (.c (.int 1))) (.var 5)) (.c (.int 0))) (.var 3))) [
      .raise "NoWalk" [.var 4]] [],
    .asg (.nm 3) (.ix (.ix (.ix (.var 0) (.c (.int 1))) (.var 5)) (.c (.int 1)))],
  .retC (.var 3)]
def b__law_feed : List MS := [
  .ret (.dsp [.c (.str "script"), .blt .list [.slH (.var 0) (.c (.int 63))], .c (.str "at"), .c (.int 0), .c (.str "left"), .c (.int 0), .c (.str "turn"), .c (.int 0)])]
def b__law_draw : List MS := [
  .asgSub (.var 0) (.c (.str "turn")) (.bin .Add (.ix (.var 0) (.c (.str "turn"))) (.c (.int 1))),
  .ite (.cmp .Gt (.ix (.var 0) (.c (.str "left"))) (.c (.int 0))) [
    .asg (.nm 2) (.bin .Mod (.ix (.var 0) (.c (.str "left"))) (.var 1)),
    .asgSub (.var 0) (.c (.str "left")) (.bin .FloorDiv (.ix (.var 0) (.c (.str "left"))) (.var 1)),
    .ret (.var 2)] [],
  .asg (.nm 3) (.c (.int 0)),
  .ite (.cmp .NotEq (.ix (.var 0) (.c (.str "script"))) (.lst [])) [
    .asg (.nm 3) (.ix (.ix (.var 0) (.c (.str "script"))) (.bin .Mod (.ix (.var 0) (.c (.str "at"))) (.blt .len [.ix (.var 0) (.c (.str "script"))])))] [],
  .asgSub (.var 0) (.c (.str "at")) (.bin .Add (.ix (.var 0) (.c (.str "at"))) (.c (.int 1))),
  .ite (.and_ (.cmp .GtE (.var 3) (.bin .Pow (.c (.int 10)) (.c (.int 18)))) (.cmp .LtE (.ix (.var 0) (.c (.str "at"))) (.blt .len [.ix (.var 0) (.c (.str "script"))]))) [
    .asgSub (.var 0) (.c (.str "left")) (.bin .FloorDiv (.var 3) (.var 1)),
    .ret (.bin .Mod (.var 3) (.var 1))] [],
  .asg (.nm 4) (.bin .Mod (.bin .Mult (.bin .Add (.bin .Mod (.var 3) (.c (.int 2147483629))) (.bin .Mult (.c (.int 7919)) (.ix (.var 0) (.c (.str "turn"))))) (.c (.int 48271))) (.c (.int 2147483647))),
  .asg (.nm 4) (.bin .Mod (.bin .Mult (.bin .Add (.bin .FloorDiv (.var 4) (.c (.int 11))) (.bin .Mult (.c (.int 6007)) (.ix (.var 0) (.c (.str "turn"))))) (.c (.int 69621))) (.c (.int 2147483587))),
  .ret (.bin .Mod (.bin .FloorDiv (.var 4) (.c (.int 7))) (.var 1))]
def b__law_shuffled : List MS := [
  .asg (.nm 2) (.blt .list [.var 1]),
  .asg (.nm 3) (.lst []),
  .for_ (.nm 4) .rng1 (.blt .len [.var 2]) (.c .non) [
    .expr (.meth .append (.var 3) [.meth .pop (.var 2) [.call "_law_draw" [.var 0, .blt .len [.var 2]]]])],
  .ret (.var 3)]
def b__law_oneway : List MS := [
  .asg (.nm 3) (.bin .Add (.c (.int 1)) (.call "_law_draw" [.var 0, .var 1])),
  .asg (.nm 4) (.lst []),
  .ite (.and_ (.cmp .Gt (.var 3) (.c (.int 1))) (.cmp .Eq (.call "_law_draw" [.var 0, .c (.int 2)]) (.c (.int 0)))) [
    .asg (.nm 5) (.call "_law_shuffled" [.var 0, .rngL (.c (.int 0)) (.var 3)]),
    .asg (.nm 4) (.lc (.tup [.ix (.var 5) (.var 6), .ix (.var 5) (.bin .Mod (.bin .Add (.var 6) (.c (.int 1))) (.var 3)), .call "_law_draw" [.var 0, .c (.int 6)]]) (.nm 6) .rng1 (.var 3) (.c .non) [] [6])] [],
  .for_ (.nm 6) .rng1 (.bin .Mult (.call "_law_draw" [.var 0, .bin .Sub (.bin .Add (.c (.int 1)) (.var 2)) (.blt .len [.var 4])]) (.blt .int [.cmp .Gt (.var 3) (.c (.int 1))])) (.c .non) [
    .asg (.nm 7) (.call "_law_draw" [.var 0, .var 3]),
    .asg (.nm 8) (.bin .Mod (.bin .Add (.bin .Add (.var 7) (.c (.int 1))) (.call "_law_draw" [.var 0, .bin .Sub (.var 3) (.c (.int 1))])) (.var 3)),
    .expr (.meth .append (.var 4) [.tup [.var 7, .var 8, .ix (.lst [.c (.int 0), .c (.int 1), .c (.int 1), .c (.int 2), .c (.int 3), .c (.int 99), .call "_law_draw" [.var 0, .c (.int 100)]]) (.call "_law_draw" [.var 0, .c (.int 7)])]]),
    .ite (.cmp .Eq (.call "_law_draw" [.var 0, .c (.int 6)]) (.c (.int 0))) [
      .asgSub (.var 4) (.bin .Sub (.blt .len [.var 4]) (.c (.int 1))) (.ix (.var 4) (.call "_law_draw" [.var 0, .blt .len [.var 4]]))] []],
  .ret (.tup [.var 3, .blt .tuple [.call "_law_shuffled" [.var 0, .var 4]]])]
def b__law_row : List MS := [
  .asg (.nm 5) (.var 2),
  .asg (.nm 6) (.tup []),
  .for_ (.nm 7) .rng1 (.call "_law_draw" [.var 0, .bin .Add (.var 3) (.c (.int 1))]) (.c .non) [
    .asg (.nm 8) (.lst []),
    .for_ (.nm 9) .rng1 (.blt .len [.ix (.var 1) (.c (.int 1))]) (.c .non) [
      .asg (.tp [.nm 10, .nm 11, .nm 12]) (.ix (.ix (.var 1) (.c (.int 1))) (.var 9)),
      .expr (.meth .extend (.var 8) [.lc (.tup [.var 9, .var 14]) (.tp [.nm 13, .nm 14]) .val (.slH (.lst [.tup [.var 10, .var 11], .tup [.var 11, .var 10]]) (.var 4)) (.c .non) [.cmp .Eq (.var 13) (.var 5)] [13, 14]])],
    .ite (.cmp .NotEq (.var 8) (.lst [])) [
      .asg (.tp [.nm 9, .nm 5]) (.ix (.var 8) (.call "_law_draw" [.var 0, .blt .len [.var 8]])),
      .asg (.nm 6) (.bin .Add (.var 6) (.tup [.var 9]))] []],
  .ret (.tup [.var 6, .var 5])]
def b__law_due : List MS := [
  .ite (.or_ (.not_ (.isi (.var 2) .tuple)) (.cmp .Gt (.blt .len [.var 2]) (.c (.int 400)))) [
    .ret (.lst [.c (.int 0)])] [],
  .asg (.nm 3) (.var 1),
  .for_ (.nm 4) .rng1 (.blt .len [.var 2]) (.c .non) [
    .asg (.nm 5) (.ix (.var 2) (.var 4)),
    .ite (.or_ (.not_ (.isi (.var 5) .int)) (.or_ (.isi (.var 5) .bool) (.not_ (.chain .LtE .Lt (.c (.int 0)) (.var 5) (.blt .len [.ix (.var 0) (.c (.int 1))]))))) [
      .ret (.lst [.var 4])] [],
    .ite (.cmp .NotEq (.ix (.ix (.ix (.var 0) (.c (.int 1))) (.var 5)) (.c (.int 0))) (.var 3)) [
      .ret (.lst [.var 4])] [],
    .asg (.nm 3) (.ix (.ix (.ix (.var 0) (.c (.int 1))) (.var 5)) (.c (.int 1)))],
  .ret (.var 3)]
def b__law_told : List MS := [
  .asg (.nm 3) (.lst []),
  .tryC .val (.nm 3) "oneway_walked" [.var 0, .var 1, .var 2] "JoinError" (some 4) [
    .asg (.nm 5) (.lst [.isX 4 ["NoPaper"], .isX 4 ["NoTie"], .isX 4 ["TooMany"]]),
    .ite (.and_ (.isX 4 ["NoWalk"]) (.and_ (.isX 4 ["ValueError"]) (.cmp .NotIn (.c (.bl true)) (.var 5)))) [
      .asg (.nm 3) (.lst [.fldX 4 "number"])] []],
  .ret (.var 3)]
def b__law_bent : List MS := [
  .asg (.nm 3) (.call "_law_draw" [.var 0, .bin .Add (.blt .len [.var 2]) (.c (.int 1))]),
  .asg (.nm 4) (.ix (.lst [.call "_law_draw" [.var 0, .c (.int 10)], .blt .len [.ix (.var 1) (.c (.int 1))], .neg (.c (.int 1)), .c (.bl true), .c .non, .c (.str "0"), .bin .Pow (.c (.int 10)) (.c (.int 39)), .tup [.c (.int 0)]]) (.call "_law_draw" [.var 0, .c (.int 8)])),
  .asg (.nm 5) (.lst [.bin .Add (.slH (.var 2) (.var 3)) (.slL (.var 2) (.bin .Add (.var 3) (.c (.int 1)))), .bin .Add (.bin .Add (.slH (.var 2) (.var 3)) (.tup [.var 4])) (.slL (.var 2) (.var 3)), .bin .Add (.bin .Add (.slH (.var 2) (.var 3)) (.tup [.var 4])) (.slL (.var 2) (.bin .Add (.var 3) (.c (.int 1)))), .rev (.var 2)]),
  .ret (.ix (.bin .Add (.var 5) (.lst [.blt .list [.var 2], .bin .Add (.var 2) (.var 2)])) (.call "_law_draw" [.var 0, .c (.int 6)]))]
def b_law : List MS := [
  .asg (.nm 1) (.call "_law_feed" [.var 0]),
  .for_ (.nm 2) .rng1 (.c (.int 2)) (.c .non) [
    .asg (.nm 3) (.call "_law_oneway" [.var 1, .ix (.lst [.c (.int 6), .c (.int 9)]) (.var 2), .ix (.lst [.c (.int 9), .c (.int 16)]) (.var 2)]),
    .asg (.nm 4) (.call "_law_draw" [.var 1, .ix (.var 3) (.c (.int 0))]),
    .asg (.nm 5) (.ix (.call "_law_row" [.var 1, .var 3, .var 4, .ix (.lst [.c (.int 6), .c (.int 40)]) (.var 2), .c (.int 1)]) (.c (.int 0))),
    .asg (.nm 6) (.bin .Add (.lst [.var 5, .tup [], .c .non, .c (.int 0), .c (.str ""), .lst []]) (.lc (.call "_law_bent" [.var 1, .var 3, .var 5]) (.nm 7) .rng1 (.c (.int 8)) (.c .non) [] [7])),
    .asg (.nm 6) (.bin .Add (.bin .Add (.var 6) (.lc (.call "_law_bent" [.var 1, .var 3, .var 8]) (.nm 8) .val (.slL (.var 6) (.c (.int 6))) (.c .non) [.isi (.var 8) .tuple] [8])) (.lst [.var 5])),
    .ite (.cmp .NotEq (.ix (.var 3) (.c (.int 1))) (.tup [])) [
      .asg (.nm 6) (.bin .Add (.var 6) (.lc (.bin .Mult (.tup [.c (.int 0)]) (.var 9)) (.nm 9) .val (.tup [.c (.int 1), .c (.int 400), .c (.int 401)]) (.c .non) [] [9]))] [],
    .for_ (.nm 8) .val (.var 6) (.c .non) [
      .ite (.cmp .NotEq (.blt .repr [.call "_law_told" [.var 3, .var 4, .var 8]]) (.blt .repr [.call "_law_due" [.var 3, .var 4, .var 8]])) [
        .ret (.c (.bl false))] []]],
  .asg (.nm 10) (.tup [.c (.int 2), .tup [.tup [.c (.int 0), .c (.int 1), .c (.int 1)], .tup [.c (.int 1), .c (.int 0), .c (.int 1)]]]),
  .ret (.and_ (.cmp .Eq (.call "_law_told" [.var 10, .c (.int 0), .bin .Mult (.tup [.c (.int 0), .c (.int 1)]) (.c (.int 200))]) (.c (.int 0))) (.cmp .Eq (.call "_law_told" [.var 10, .c (.int 0), .bin .Add (.bin .Mult (.tup [.c (.int 0), .c (.int 1)]) (.c (.int 200))) (.tup [.c (.int 0)])]) (.lst [.c (.int 0)])))]
abbrev s_is_within : Stmt := topS 8
def e_is_within : En := ⟨"is_within", s_is_within, ["thing", "least", "most"], ["thing", "least", "most"], b_is_within, .pl⟩
abbrev s_oneway_walked : Stmt := topS 9
def e_oneway_walked : En := ⟨"oneway_walked", s_oneway_walked, ["web", "start", "row", "place", "k", "number"], ["web", "start", "row"], b_oneway_walked, .rx⟩
abbrev s__law_feed : Stmt := topS 11
def e__law_feed : En := ⟨"_law_feed", s__law_feed, ["_law_script"], ["_law_script"], b__law_feed, .pl⟩
abbrev s__law_draw : Stmt := topS 12
def e__law_draw : En := ⟨"_law_draw", s__law_draw, ["_law_feed_here", "_law_many", "_law_found", "_law_cell", "_law_mixed"], ["_law_feed_here", "_law_many"], b__law_draw, .pl⟩
abbrev s__law_shuffled : Stmt := topS 13
def e__law_shuffled : En := ⟨"_law_shuffled", s__law_shuffled, ["_law_feed_here", "_law_some", "_law_left", "_law_found", "_law_k"], ["_law_feed_here", "_law_some"], b__law_shuffled, .pl⟩
abbrev s__law_oneway : Stmt := topS 14
def e__law_oneway : En := ⟨"_law_oneway", s__law_oneway, ["_law_feed_here", "_law_most", "_law_ties", "_law_many", "_law_found", "_law_line", "_law_k", "_law_a", "_law_b"], ["_law_feed_here", "_law_most", "_law_ties"], b__law_oneway, .pl⟩
abbrev s__law_row : Stmt := topS 15
def e__law_row : En := ⟨"_law_row", s__law_row, ["_law_feed_here", "_law_web", "_law_start", "_law_most", "_law_way", "_law_place", "_law_row_here", "_law_turn", "_law_some", "_law_number", "_law_a", "_law_b", "_law_price", "_law_first", "_law_second"], ["_law_feed_here", "_law_web", "_law_start", "_law_most", "_law_way"], b__law_row, .pl⟩
abbrev s__law_due : Stmt := topS 16
def e__law_due : En := ⟨"_law_due", s__law_due, ["_law_web", "_law_start", "_law_thing", "_law_place", "_law_k", "_law_number"], ["_law_web", "_law_start", "_law_thing"], b__law_due, .pl⟩
abbrev s__law_told : Stmt := topS 17
def e__law_told : En := ⟨"_law_told", s__law_told, ["_law_web", "_law_start", "_law_thing", "_law_found", "e", "_law_others"], ["_law_web", "_law_start", "_law_thing"], b__law_told, .pl⟩
abbrev s__law_bent : Stmt := topS 18
def e__law_bent : En := ⟨"_law_bent", s__law_bent, ["_law_feed_here", "_law_web", "_law_row_here", "_law_at", "_law_odd", "_law_some"], ["_law_feed_here", "_law_web", "_law_row_here"], b__law_bent, .pl⟩
abbrev s_law : Stmt := topS 19
def e_law : En := ⟨"law", s_law, ["_law_script", "_law_feed_here", "_law_turn", "_law_web", "_law_start", "_law_row_here", "_law_things", "_law_k", "_law_thing", "_law_many", "_law_both"], ["_law_script"], b_law, .pl⟩
def tab : List En := [e_is_within, e_oneway_walked, e__law_feed, e__law_draw, e__law_shuffled, e__law_oneway, e__law_row, e__law_due, e__law_told, e__law_bent, e_law]
def Bs : List Str := ["bool", "enumerate", "int", "isinstance", "len", "list", "range", "repr", "tuple"]
def Gs : List Str := ["MOST_STEPS"]
def CLs : List Str := ["JoinError", "NoPaper", "NoWalk", "NoTie", "TooMany", "ValueError"]
def gl (x : Str) : Option MV := if x = "MOST_STEPS" then some (.int 400) else none
abbrev Gm : Str → Option FD := tabGm tab
def fuel : Nat := 1000000
abbrev run (d : Nat) : Str → List MV → MH → R MV := runF Gm gl fuel d
theorem ok_is_within : EnOk tab Bs Gs CLs e_is_within := ⟨⟨rfl, rfl, rfl, by decide +kernel, rfl, by decide +kernel, by decide +kernel⟩, by kernel_rfl, fun h => by cases h⟩
theorem ok_oneway_walked : EnOk tab Bs Gs CLs e_oneway_walked := ⟨⟨rfl, rfl, rfl, by decide +kernel, rfl, by decide +kernel, by decide +kernel⟩, by kernel_rfl, fun h => by cases h⟩
theorem ok__law_feed : EnOk tab Bs Gs CLs e__law_feed := ⟨⟨rfl, rfl, rfl, by decide +kernel, rfl, by decide +kernel, by decide +kernel⟩, by kernel_rfl, fun h => by cases h⟩
theorem ok__law_draw : EnOk tab Bs Gs CLs e__law_draw := ⟨⟨rfl, rfl, rfl, by decide +kernel, rfl, by decide +kernel, by decide +kernel⟩, by kernel_rfl, fun h => by cases h⟩
theorem ok__law_shuffled : EnOk tab Bs Gs CLs e__law_shuffled := ⟨⟨rfl, rfl, rfl, by decide +kernel, rfl, by decide +kernel, by decide +kernel⟩, by kernel_rfl, fun h => by cases h⟩
theorem ok__law_oneway : EnOk tab Bs Gs CLs e__law_oneway := ⟨⟨rfl, rfl, rfl, by decide +kernel, rfl, by decide +kernel, by decide +kernel⟩, by kernel_rfl, fun h => by cases h⟩
theorem ok__law_row : EnOk tab Bs Gs CLs e__law_row := ⟨⟨rfl, rfl, rfl, by decide +kernel, rfl, by decide +kernel, by decide +kernel⟩, by kernel_rfl, fun h => by cases h⟩
theorem ok__law_due : EnOk tab Bs Gs CLs e__law_due := ⟨⟨rfl, rfl, rfl, by decide +kernel, rfl, by decide +kernel, by decide +kernel⟩, by kernel_rfl, fun h => by cases h⟩
theorem ok__law_told : EnOk tab Bs Gs CLs e__law_told := ⟨⟨rfl, rfl, rfl, by decide +kernel, rfl, by decide +kernel, by decide +kernel⟩, by kernel_rfl, fun h => by cases h⟩
theorem ok__law_bent : EnOk tab Bs Gs CLs e__law_bent := ⟨⟨rfl, rfl, rfl, by decide +kernel, rfl, by decide +kernel, by decide +kernel⟩, by kernel_rfl, fun h => by cases h⟩
theorem ok_law : EnOk tab Bs Gs CLs e_law := ⟨⟨rfl, rfl, rfl, by decide +kernel, rfl, by decide +kernel, by decide +kernel⟩, by kernel_rfl, fun h => by cases h⟩
theorem ok_all : ∀ e ∈ tab, EnOk tab Bs Gs CLs e := by
  intro e he
  simp only [tab, List.mem_cons, List.mem_nil_iff, or_false] at he
  rcases he with rfl | rfl | rfl | rfl | rfl | rfl | rfl | rfl | rfl | rfl | rfl
  · exact ok_is_within
  · exact ok_oneway_walked
  · exact ok__law_feed
  · exact ok__law_draw
  · exact ok__law_shuffled
  · exact ok__law_oneway
  · exact ok__law_row
  · exact ok__law_due
  · exact ok__law_told
  · exact ok__law_bent
  · exact ok_law
theorem nd_tab : (names tab).Nodup := by decide +kernel
theorem g_is_within : Gm "is_within" = some ⟨3, 3, b_is_within⟩ := by kernel_rfl
theorem g_oneway_walked : Gm "oneway_walked" = some ⟨3, 6, b_oneway_walked⟩ := by kernel_rfl
theorem g__law_feed : Gm "_law_feed" = some ⟨1, 1, b__law_feed⟩ := by kernel_rfl
theorem g__law_draw : Gm "_law_draw" = some ⟨2, 5, b__law_draw⟩ := by kernel_rfl
theorem g__law_shuffled : Gm "_law_shuffled" = some ⟨2, 5, b__law_shuffled⟩ := by kernel_rfl
theorem g__law_oneway : Gm "_law_oneway" = some ⟨3, 9, b__law_oneway⟩ := by kernel_rfl
theorem g__law_row : Gm "_law_row" = some ⟨5, 15, b__law_row⟩ := by kernel_rfl
theorem g__law_due : Gm "_law_due" = some ⟨3, 6, b__law_due⟩ := by kernel_rfl
theorem g__law_told : Gm "_law_told" = some ⟨3, 6, b__law_told⟩ := by kernel_rfl
theorem g__law_bent : Gm "_law_bent" = some ⟨3, 6, b__law_bent⟩ := by kernel_rfl
theorem g_law : Gm "law" = some ⟨1, 11, b_law⟩ := by kernel_rfl
abbrev y_NoPaper : Stmt := inner (topS 2)
def fl_NoPaper : List Str := ["word", "number"]
def an_NoPaper : List Str := ["NoPaper", "JoinError", "ValueError"]
abbrev y_NoWalk : Stmt := inner (topS 3)
def fl_NoWalk : List Str := ["number"]
def an_NoWalk : List Str := ["NoWalk", "JoinError", "ValueError"]
abbrev y_NoTie : Stmt := inner (topS 4)
def fl_NoTie : List Str := ["number"]
def an_NoTie : List Str := ["NoTie", "JoinError", "ValueError"]
abbrev y_TooMany : Stmt := inner (topS 5)
def fl_TooMany : List Str := ["word"]
def an_TooMany : List Str := ["TooMany", "JoinError", "ValueError"]
set_option maxHeartbeats 4000000 in
theorem all_mk {l : PySem.W.OpenLaw} {w : World} {K : PySem.W.Frag} {h : Heap} {mg : Str → Option Value} {fa : Addr} (X : K.In h) (G : h.Ns mainGlobals mg) (hfa : mg "law" = some (.ref fa)) {dd : Nat}
    {f0 : Addr} {od0 an0 : Option Addr} {sl0 : Array (Option Value)} {oc0 kV0 dc0 pm0 cd0 ct0 : Value}
    (a0 : PySem.W.nsIn K mainGlobals "is_within" = some (some (.ref f0))) (l0 : K.lookup f0 = some ⟨oc0, od0, .func (PySem.W.fnOf "is_within" "is_within" (defArgs s_is_within) (defBody s_is_within) (defScope s_is_within) .none kV0 dc0 pm0 an0 cd0 ct0), sl0⟩) (c0 : PySem.W.codeIn K cd0 "is_within" = true) (k0 : PySem.W.keepIn K (.ref f0) = true)
    {f1 : Addr} {od1 an1 : Option Addr} {sl1 : Array (Option Value)} {oc1 kV1 dc1 pm1 cd1 ct1 : Value}
    (a1 : PySem.W.nsIn K mainGlobals "oneway_walked" = some (some (.ref f1))) (l1 : K.lookup f1 = some ⟨oc1, od1, .func (PySem.W.fnOf "oneway_walked" "oneway_walked" (defArgs s_oneway_walked) (defBody s_oneway_walked) (defScope s_oneway_walked) .none kV1 dc1 pm1 an1 cd1 ct1), sl1⟩) (c1 : PySem.W.codeIn K cd1 "oneway_walked" = true) (k1 : PySem.W.keepIn K (.ref f1) = true)
    {f2 : Addr} {od2 an2 : Option Addr} {sl2 : Array (Option Value)} {oc2 kV2 dc2 pm2 cd2 ct2 : Value}
    (a2 : PySem.W.nsIn K mainGlobals "_law_feed" = some (some (.ref f2))) (l2 : K.lookup f2 = some ⟨oc2, od2, .func (PySem.W.fnOf "_law_feed" "_law_feed" (defArgs s__law_feed) (defBody s__law_feed) (defScope s__law_feed) .none kV2 dc2 pm2 an2 cd2 ct2), sl2⟩) (c2 : PySem.W.codeIn K cd2 "_law_feed" = true) (k2 : PySem.W.keepIn K (.ref f2) = true)
    {f3 : Addr} {od3 an3 : Option Addr} {sl3 : Array (Option Value)} {oc3 kV3 dc3 pm3 cd3 ct3 : Value}
    (a3 : PySem.W.nsIn K mainGlobals "_law_draw" = some (some (.ref f3))) (l3 : K.lookup f3 = some ⟨oc3, od3, .func (PySem.W.fnOf "_law_draw" "_law_draw" (defArgs s__law_draw) (defBody s__law_draw) (defScope s__law_draw) .none kV3 dc3 pm3 an3 cd3 ct3), sl3⟩) (c3 : PySem.W.codeIn K cd3 "_law_draw" = true) (k3 : PySem.W.keepIn K (.ref f3) = true)
    {f4 : Addr} {od4 an4 : Option Addr} {sl4 : Array (Option Value)} {oc4 kV4 dc4 pm4 cd4 ct4 : Value}
    (a4 : PySem.W.nsIn K mainGlobals "_law_shuffled" = some (some (.ref f4))) (l4 : K.lookup f4 = some ⟨oc4, od4, .func (PySem.W.fnOf "_law_shuffled" "_law_shuffled" (defArgs s__law_shuffled) (defBody s__law_shuffled) (defScope s__law_shuffled) .none kV4 dc4 pm4 an4 cd4 ct4), sl4⟩) (c4 : PySem.W.codeIn K cd4 "_law_shuffled" = true) (k4 : PySem.W.keepIn K (.ref f4) = true)
    {f5 : Addr} {od5 an5 : Option Addr} {sl5 : Array (Option Value)} {oc5 kV5 dc5 pm5 cd5 ct5 : Value}
    (a5 : PySem.W.nsIn K mainGlobals "_law_oneway" = some (some (.ref f5))) (l5 : K.lookup f5 = some ⟨oc5, od5, .func (PySem.W.fnOf "_law_oneway" "_law_oneway" (defArgs s__law_oneway) (defBody s__law_oneway) (defScope s__law_oneway) .none kV5 dc5 pm5 an5 cd5 ct5), sl5⟩) (c5 : PySem.W.codeIn K cd5 "_law_oneway" = true) (k5 : PySem.W.keepIn K (.ref f5) = true)
    {f6 : Addr} {od6 an6 : Option Addr} {sl6 : Array (Option Value)} {oc6 kV6 dc6 pm6 cd6 ct6 : Value}
    (a6 : PySem.W.nsIn K mainGlobals "_law_row" = some (some (.ref f6))) (l6 : K.lookup f6 = some ⟨oc6, od6, .func (PySem.W.fnOf "_law_row" "_law_row" (defArgs s__law_row) (defBody s__law_row) (defScope s__law_row) .none kV6 dc6 pm6 an6 cd6 ct6), sl6⟩) (c6 : PySem.W.codeIn K cd6 "_law_row" = true) (k6 : PySem.W.keepIn K (.ref f6) = true)
    {f7 : Addr} {od7 an7 : Option Addr} {sl7 : Array (Option Value)} {oc7 kV7 dc7 pm7 cd7 ct7 : Value}
    (a7 : PySem.W.nsIn K mainGlobals "_law_due" = some (some (.ref f7))) (l7 : K.lookup f7 = some ⟨oc7, od7, .func (PySem.W.fnOf "_law_due" "_law_due" (defArgs s__law_due) (defBody s__law_due) (defScope s__law_due) .none kV7 dc7 pm7 an7 cd7 ct7), sl7⟩) (c7 : PySem.W.codeIn K cd7 "_law_due" = true) (k7 : PySem.W.keepIn K (.ref f7) = true)
    {f8 : Addr} {od8 an8 : Option Addr} {sl8 : Array (Option Value)} {oc8 kV8 dc8 pm8 cd8 ct8 : Value}
    (a8 : PySem.W.nsIn K mainGlobals "_law_told" = some (some (.ref f8))) (l8 : K.lookup f8 = some ⟨oc8, od8, .func (PySem.W.fnOf "_law_told" "_law_told" (defArgs s__law_told) (defBody s__law_told) (defScope s__law_told) .none kV8 dc8 pm8 an8 cd8 ct8), sl8⟩) (c8 : PySem.W.codeIn K cd8 "_law_told" = true) (k8 : PySem.W.keepIn K (.ref f8) = true)
    {f9 : Addr} {od9 an9 : Option Addr} {sl9 : Array (Option Value)} {oc9 kV9 dc9 pm9 cd9 ct9 : Value}
    (a9 : PySem.W.nsIn K mainGlobals "_law_bent" = some (some (.ref f9))) (l9 : K.lookup f9 = some ⟨oc9, od9, .func (PySem.W.fnOf "_law_bent" "_law_bent" (defArgs s__law_bent) (defBody s__law_bent) (defScope s__law_bent) .none kV9 dc9 pm9 an9 cd9 ct9), sl9⟩) (c9 : PySem.W.codeIn K cd9 "_law_bent" = true) (k9 : PySem.W.keepIn K (.ref f9) = true)
    {f10 : Addr} {od10 an10 : Option Addr} {sl10 : Array (Option Value)} {oc10 kV10 dc10 pm10 cd10 ct10 : Value}
    (a10 : PySem.W.nsIn K mainGlobals "law" = some (some (.ref f10))) (l10 : K.lookup f10 = some ⟨oc10, od10, .func (PySem.W.fnOf "law" "law" (defArgs s_law) (defBody s_law) (defScope s_law) .none kV10 dc10 pm10 an10 cd10 ct10), sl10⟩) (c10 : PySem.W.codeIn K cd10 "law" = true) (k10 : PySem.W.keepIn K (.ref f10) = true)
    (z0 : PySem.W.nsIn K mainGlobals "bool" = some none)
    (z1 : PySem.W.nsIn K mainGlobals "enumerate" = some none)
    (z2 : PySem.W.nsIn K mainGlobals "int" = some none)
    (z3 : PySem.W.nsIn K mainGlobals "isinstance" = some none)
    (z4 : PySem.W.nsIn K mainGlobals "len" = some none)
    (z5 : PySem.W.nsIn K mainGlobals "list" = some none)
    (z6 : PySem.W.nsIn K mainGlobals "range" = some none)
    (z7 : PySem.W.nsIn K mainGlobals "repr" = some none)
    (z8 : PySem.W.nsIn K mainGlobals "tuple" = some none)
    {t0 : Tok} (y0 : PySem.W.nsIn K mainGlobals "MOST_STEPS" = some (some (.int 400 t0)))
    (x0 : CF K "NoPaper" "NoPaper.__init__" y_NoPaper CLs fl_NoPaper an_NoPaper)
    (x1 : CF K "NoWalk" "NoWalk.__init__" y_NoWalk CLs fl_NoWalk an_NoWalk)
    (x2 : CF K "NoTie" "NoTie.__init__" y_NoTie CLs fl_NoTie an_NoTie)
    (x3 : CF K "TooMany" "TooMany.__init__" y_TooMany CLs fl_TooMany an_TooMany)
    {Jn : Addr} (j0 : PySem.W.nsIn K mainGlobals "JoinError" = some (some (.ref Jn))) (j1 : jB K Jn = true)
    (vb : vB K CLs = true)
    : ∃ fd : FuncData, (∀ (s : Shared) (v : Value), BindsTo s fd ⟨[v], []⟩ [("_law_script", v)]) ∧ ∀ base : Heap, K.In base → base.Ns mainGlobals mg → FnG l.prog w K mg base (dd + 2) fa fd ["_law_script"] (spM K (run dd) "law" 1) := by
  have e := hfa.symm.trans (PySem.W.mg_of X G a10)
  cases e
  have F0 := fun_mk (st := s_is_within) l0 c0 k0
  have A0 : EnAt K mg e_is_within f0 _ := ⟨F0, PySem.W.mg_of X G a0, F0.binds (ps := ["thing", "least", "most"]) fun _ _ _ _ _ _ us hl => match us, hl with | [_, _, _], _ => rfl⟩
  have F1 := fun_mk (st := s_oneway_walked) l1 c1 k1
  have A1 : EnAt K mg e_oneway_walked f1 _ := ⟨F1, PySem.W.mg_of X G a1, F1.binds (ps := ["web", "start", "row"]) fun _ _ _ _ _ _ us hl => match us, hl with | [_, _, _], _ => rfl⟩
  have F2 := fun_mk (st := s__law_feed) l2 c2 k2
  have A2 : EnAt K mg e__law_feed f2 _ := ⟨F2, PySem.W.mg_of X G a2, F2.binds (ps := ["_law_script"]) fun _ _ _ _ _ _ us hl => match us, hl with | [_], _ => rfl⟩
  have F3 := fun_mk (st := s__law_draw) l3 c3 k3
  have A3 : EnAt K mg e__law_draw f3 _ := ⟨F3, PySem.W.mg_of X G a3, F3.binds (ps := ["_law_feed_here", "_law_many"]) fun _ _ _ _ _ _ us hl => match us, hl with | [_, _], _ => rfl⟩
  have F4 := fun_mk (st := s__law_shuffled) l4 c4 k4
  have A4 : EnAt K mg e__law_shuffled f4 _ := ⟨F4, PySem.W.mg_of X G a4, F4.binds (ps := ["_law_feed_here", "_law_some"]) fun _ _ _ _ _ _ us hl => match us, hl with | [_, _], _ => rfl⟩
  have F5 := fun_mk (st := s__law_oneway) l5 c5 k5
  have A5 : EnAt K mg e__law_oneway f5 _ := ⟨F5, PySem.W.mg_of X G a5, F5.binds (ps := ["_law_feed_here", "_law_most", "_law_ties"]) fun _ _ _ _ _ _ us hl => match us, hl with | [_, _, _], _ => rfl⟩
  have F6 := fun_mk (st := s__law_row) l6 c6 k6
  have A6 : EnAt K mg e__law_row f6 _ := ⟨F6, PySem.W.mg_of X G a6, F6.binds (ps := ["_law_feed_here", "_law_web", "_law_start", "_law_most", "_law_way"]) fun _ _ _ _ _ _ us hl => match us, hl with | [_, _, _, _, _], _ => rfl⟩
  have F7 := fun_mk (st := s__law_due) l7 c7 k7
  have A7 : EnAt K mg e__law_due f7 _ := ⟨F7, PySem.W.mg_of X G a7, F7.binds (ps := ["_law_web", "_law_start", "_law_thing"]) fun _ _ _ _ _ _ us hl => match us, hl with | [_, _, _], _ => rfl⟩
  have F8 := fun_mk (st := s__law_told) l8 c8 k8
  have A8 : EnAt K mg e__law_told f8 _ := ⟨F8, PySem.W.mg_of X G a8, F8.binds (ps := ["_law_web", "_law_start", "_law_thing"]) fun _ _ _ _ _ _ us hl => match us, hl with | [_, _, _], _ => rfl⟩
  have F9 := fun_mk (st := s__law_bent) l9 c9 k9
  have A9 : EnAt K mg e__law_bent f9 _ := ⟨F9, PySem.W.mg_of X G a9, F9.binds (ps := ["_law_feed_here", "_law_web", "_law_row_here"]) fun _ _ _ _ _ _ us hl => match us, hl with | [_, _, _], _ => rfl⟩
  have F10 := fun_mk (st := s_law) l10 c10 k10
  have A10 : EnAt K mg e_law fa _ := ⟨F10, PySem.W.mg_of X G a10, F10.binds (ps := ["_law_script"]) fun _ _ _ _ _ _ us hl => match us, hl with | [_], _ => rfl⟩
  have hA : ∀ e ∈ tab, ∃ f fd, EnAt K mg e f fd := by
    intro e he
    simp only [tab, List.mem_cons, List.mem_nil_iff, or_false] at he
    rcases he with rfl | rfl | rfl | rfl | rfl | rfl | rfl | rfl | rfl | rfl | rfl
    · exact ⟨_, _, A0⟩
    · exact ⟨_, _, A1⟩
    · exact ⟨_, _, A2⟩
    · exact ⟨_, _, A3⟩
    · exact ⟨_, _, A4⟩
    · exact ⟨_, _, A5⟩
    · exact ⟨_, _, A6⟩
    · exact ⟨_, _, A7⟩
    · exact ⟨_, _, A8⟩
    · exact ⟨_, _, A9⟩
    · exact ⟨_, _, A10⟩
  have hB : ∀ x ∈ Bs, mg x = none := by
    intro x hx
    simp only [Bs, List.mem_cons, List.mem_nil_iff, or_false] at hx
    rcases hx with rfl | rfl | rfl | rfl | rfl | rfl | rfl | rfl | rfl
    · exact PySem.W.mg_none_of X G z0
    · exact PySem.W.mg_none_of X G z1
    · exact PySem.W.mg_none_of X G z2
    · exact PySem.W.mg_none_of X G z3
    · exact PySem.W.mg_none_of X G z4
    · exact PySem.W.mg_none_of X G z5
    · exact PySem.W.mg_none_of X G z6
    · exact PySem.W.mg_none_of X G z7
    · exact PySem.W.mg_none_of X G z8
  have hG : ∀ x v, gl x = some v → ∃ u w', mg x = some u ∧ RelV w' u ∧ ∀ ρ H, Rep K ρ H v w' := by
    intro x v hv
    unfold gl at hv
    split at hv
    · rename_i hx; subst hx; cases hv; exact gl_int (PySem.W.mg_of X G y0)
    cases hv
  refine ⟨PySem.W.fnOf "law" "law" (defArgs s_law) (defBody s_law) (defScope s_law) .none kV10 dc10 pm10 an10 cd10 ct10, fun s v => .of_eq rfl, fun base _ _ => (program_ok nd_tab ok_all hA hB hG ?_ dd e_law (by simp [tab]) _ _ A10).1 rfl⟩
  refine all_of X G vb fun c hc flds anc hq => ?_
  simp only [CLs, List.mem_cons, List.mem_nil_iff, or_false] at hc
  have jo := join_of X G j0 j1
  rcases hc with rfl | rfl | rfl | rfl | rfl | rfl
  · exact absurd hq (by intro z; cases z)
  · cases (show some (fl_NoPaper, an_NoPaper) = some (flds, anc) from hq)
    refine cls_of X G x0 fun fI C fd F o nof => ⟨["self", "word", "number"], F.binds fun _ _ _ _ _ _ us hl => match us, hl with | [_, _, _], _ => rfl, ?_⟩
    exact ini2 F ⟨rfl, rfl, rfl, by decide +kernel, rfl, by decide +kernel, by decide +kernel⟩ jo o (nof _ (by simp [fl_NoPaper])) (nof _ (by simp [fl_NoPaper])) rfl (fun env => ⟨_, rfl⟩) rfl (by decide) (by decide) (by decide)
  · cases (show some (fl_NoWalk, an_NoWalk) = some (flds, anc) from hq)
    refine cls_of X G x1 fun fI C fd F o nof => ⟨["self", "number"], F.binds fun _ _ _ _ _ _ us hl => match us, hl with | [_, _], _ => rfl, ?_⟩
    exact ini1 F ⟨rfl, rfl, rfl, by decide +kernel, rfl, by decide +kernel, by decide +kernel⟩ jo o (nof _ (by simp [fl_NoWalk])) rfl (fun env => ⟨_, rfl⟩) rfl (by decide)
  · cases (show some (fl_NoTie, an_NoTie) = some (flds, anc) from hq)
    refine cls_of X G x2 fun fI C fd F o nof => ⟨["self", "number"], F.binds fun _ _ _ _ _ _ us hl => match us, hl with | [_, _], _ => rfl, ?_⟩
    exact ini1 F ⟨rfl, rfl, rfl, by decide +kernel, rfl, by decide +kernel, by decide +kernel⟩ jo o (nof _ (by simp [fl_NoTie])) rfl (fun env => ⟨_, rfl⟩) rfl (by decide)
  · cases (show some (fl_TooMany, an_TooMany) = some (flds, anc) from hq)
    refine cls_of X G x3 fun fI C fd F o nof => ⟨["self", "word"], F.binds fun _ _ _ _ _ _ us hl => match us, hl with | [_, _], _ => rfl, ?_⟩
    exact ini1 F ⟨rfl, rfl, rfl, by decide +kernel, rfl, by decide +kernel, by decide +kernel⟩ jo o (nof _ (by simp [fl_TooMany])) rfl (fun env => ⟨_, rfl⟩) rfl (by decide)
  · exact absurd hq (by intro z; cases z)
def info (x : Str) : List Cls × List PK × Bool := if x = "is_within" then ([.sh, .sh, .sh], [.pl, .pl, .pl], false) else if x = "oneway_walked" then ([.sh, .sh, .sh, .sh, .sh, .sh], [.pl, .pl, .pl], false) else if x = "_law_feed" then ([.sh], [.pl], true) else if x = "_law_draw" then ([.io, .sh, .sh, .sh, .sh], [.io, .pl], false) else if x = "_law_shuffled" then ([.io, .br, .ow, .ow, .sh], [.io, .br], false) else if x = "_law_oneway" then ([.io, .sh, .sh, .sh, .ow, .sh, .sh, .sh, .sh], [.io, .pl, .pl], false) else if x = "_law_row" then ([.io, .sh, .sh, .sh, .sh, .sh, .sh, .sh, .ow, .sh, .sh, .sh, .sh, .sh, .sh], [.io, .pl, .pl, .pl, .pl], false) else if x = "_law_due" then ([.sh, .sh, .sh, .sh, .sh, .sh], [.pl, .pl, .pl], false) else if x = "_law_told" then ([.sh, .sh, .sh, .sh, .sh, .sh], [.pl, .pl, .pl], false) else if x = "_law_bent" then ([.io, .sh, .sh, .sh, .sh, .sh], [.io, .pl, .pl], false) else if x = "law" then ([.sh, .ow, .sh, .sh, .sh, .sh, .sh, .sh, .sh, .sh, .sh], [.pl], false) else ([], [], false)
def Gp (x : Str) : Option FP := (Gm x).map fun d => ⟨d.np, d.nl, d.body, (info x).1, (info x).2.1, (info x).2.2⟩
theorem gok : GOk Gm Gp := ⟨fun f d h => by
  unfold Gp at h
  cases q : Gm f with
  | none => rw [q] at h; cases h
  | some x => rw [q] at h; cases h; rfl⟩
theorem p_is_within : Gp "is_within" = some ⟨3, 3, b_is_within, [.sh, .sh, .sh], [.pl, .pl, .pl], false⟩ := by kernel_rfl
theorem p_oneway_walked : Gp "oneway_walked" = some ⟨3, 6, b_oneway_walked, [.sh, .sh, .sh, .sh, .sh, .sh], [.pl, .pl, .pl], false⟩ := by kernel_rfl
theorem p__law_feed : Gp "_law_feed" = some ⟨1, 1, b__law_feed, [.sh], [.pl], true⟩ := by kernel_rfl
theorem p__law_draw : Gp "_law_draw" = some ⟨2, 5, b__law_draw, [.io, .sh, .sh, .sh, .sh], [.io, .pl], false⟩ := by kernel_rfl
theorem p__law_shuffled : Gp "_law_shuffled" = some ⟨2, 5, b__law_shuffled, [.io, .br, .ow, .ow, .sh], [.io, .br], false⟩ := by kernel_rfl
theorem p__law_oneway : Gp "_law_oneway" = some ⟨3, 9, b__law_oneway, [.io, .sh, .sh, .sh, .ow, .sh, .sh, .sh, .sh], [.io, .pl, .pl], false⟩ := by kernel_rfl
theorem p__law_row : Gp "_law_row" = some ⟨5, 15, b__law_row, [.io, .sh, .sh, .sh, .sh, .sh, .sh, .sh, .ow, .sh, .sh, .sh, .sh, .sh, .sh], [.io, .pl, .pl, .pl, .pl], false⟩ := by kernel_rfl
theorem p__law_due : Gp "_law_due" = some ⟨3, 6, b__law_due, [.sh, .sh, .sh, .sh, .sh, .sh], [.pl, .pl, .pl], false⟩ := by kernel_rfl
theorem p__law_told : Gp "_law_told" = some ⟨3, 6, b__law_told, [.sh, .sh, .sh, .sh, .sh, .sh], [.pl, .pl, .pl], false⟩ := by kernel_rfl
theorem p__law_bent : Gp "_law_bent" = some ⟨3, 6, b__law_bent, [.io, .sh, .sh, .sh, .sh, .sh], [.io, .pl, .pl], false⟩ := by kernel_rfl
theorem p_law : Gp "law" = some ⟨1, 11, b_law, [.sh, .ow, .sh, .sh, .sh, .sh, .sh, .sh, .sh, .sh, .sh], [.pl], false⟩ := by kernel_rfl
abbrev runq (d : Nat) : Str → List PV → CR := runP Gp gl fuel d
end K66

namespace K66
open PySem Mn
theorem law_q : ∀ ns : List Int, ns.length ≤ 63 → ∃ o ios, runq 60 "law" [.fro (ns.map .int)] = .ok o ios ∧ o.v = .bl true := by
  intro ns _
  have D : ∀ d c, GD.Draw (cqOf Gp gl fuel (d + 1) c) := fun d c => GD.draw_ok p__law_draw
  have S : ∀ d c, GD.Shuf (cqOf Gp gl fuel (d + 2) c) := fun d c => GD.shuf_ok p__law_shuffled (D d)
  have O : ∀ d c, GD.OneW (cqOf Gp gl fuel (d + 3) c) := fun d c => GD.one_ok p__law_oneway (D (d + 1)) (S d)
  have Wi : ∀ d c, L66.Within (cqOf Gp gl fuel (d + 1) c) "is_within" := fun d c => L66.within_ok p_is_within
  have Wk : ∀ d c, L66.Walked (cqOf Gp gl fuel (d + 2) c) := fun d c => L66.walked_ok p_oneway_walked rfl (Wi d)
  exact L66.law_ok p_law ns (fun c => GD.feed_ok p__law_feed) (fun c => ⟨L66.GDdraw (D 58 c), O 56 c, L66.row_ok p__law_row (D 57), L66.bento_ok p__law_bent (D 57), L66.ltold_ok p__law_told (Wk 56), L66.ldue_ok p__law_due⟩)
end K66

namespace K66
open PySem PySem.Spec PyProof.Rows L2 Mn
theorem law_run : ∀ ns : List Int, ns.length ≤ 63 → ∃ mh', run 60 "law" [.ref 0] [.fro (ns.map .int)] = .ok (.bl true) mh' := by
  intro ns hn
  obtain ⟨o, ios, e, ho⟩ := law_q ns hn
  exact law_of_run (fr := false) gok (by kernel_rfl) e ho
end K66
open PySem PySem.W PyProof.Rows
set_option maxHeartbeats 0 in
theorem PySem.Challenge.cw_oddjoins_k66_oneway_rows_walked_holds : PySem.Challenge.rw_oddjoins_k66_oneway_rows_walked.Holds := by
  w_on; o_law; k_head; (case hw => w_witness2)
  k_fill
  refine Mn.walk_mini (l := PySem.Challenge.rw_oddjoins_k66_oneway_rows_walked) (n := 63) (k := 62) (x := "_law_script") (call := K66.run 60) rfl (by decide) rfl ⟨rfl, by decide, by decide⟩ (fun w h Y => PySem.W.kIn_of Y) K66.law_run ?F
  case F =>
    intro w mg fa h KX G hmg
    refine' K66.all_mk KX G hmg ?a0 ?l0 ?c0 ?k0 ?a1 ?l1 ?c1 ?k1 ?a2 ?l2 ?c2 ?k2 ?a3 ?l3 ?c3 ?k3 ?a4 ?l4 ?c4 ?k4 ?a5 ?l5 ?c5 ?k5 ?a6 ?l6 ?c6 ?k6 ?a7 ?l7 ?c7 ?k7 ?a8 ?l8 ?c8 ?k8 ?a9 ?l9 ?c9 ?k9 ?a10 ?l10 ?c10 ?k10 ?z0 ?z1 ?z2 ?z3 ?z4 ?z5 ?z6 ?z7 ?z8 ?y0 ?x0 ?x1 ?x2 ?x3 ?j0 ?j1 ?vb
    (case a0 => k_is)
    (case l0 => k_is)
    (case c0 => k_is)
    (case k0 => k_is)
    (case a1 => k_is)
    (case l1 => k_is)
    (case c1 => k_is)
    (case k1 => k_is)
    (case a2 => k_is)
    (case l2 => k_is)
    (case c2 => k_is)
    (case k2 => k_is)
    (case a3 => k_is)
    (case l3 => k_is)
    (case c3 => k_is)
    (case k3 => k_is)
    (case a4 => k_is)
    (case l4 => k_is)
    (case c4 => k_is)
    (case k4 => k_is)
    (case a5 => k_is)
    (case l5 => k_is)
    (case c5 => k_is)
    (case k5 => k_is)
    (case a6 => k_is)
    (case l6 => k_is)
    (case c6 => k_is)
    (case k6 => k_is)
    (case a7 => k_is)
    (case l7 => k_is)
    (case c7 => k_is)
    (case k7 => k_is)
    (case a8 => k_is)
    (case l8 => k_is)
    (case c8 => k_is)
    (case k8 => k_is)
    (case a9 => k_is)
    (case l9 => k_is)
    (case c9 => k_is)
    (case k9 => k_is)
    (case a10 => k_is)
    (case l10 => k_is)
    (case c10 => k_is)
    (case k10 => k_is)
    (case z0 => k_is)
    (case z1 => k_is)
    (case z2 => k_is)
    (case z3 => k_is)
    (case z4 => k_is)
    (case z5 => k_is)
    (case z6 => k_is)
    (case z7 => k_is)
    (case z8 => k_is)
    (case y0 => k_is)
    (case x0 => refine' Mn.CF_mk ?ca ?cl ?cv ?cq ?ci ?ct ?cf ?cc ?ck; (case ca => k_is); (case cl => k_is); (case cv => kernel_rfl); (case cq => kernel_rfl); (case ci => k_is); (case ct => k_is); (case cf => k_is); (case cc => k_is); (case ck => k_is))
    (case x1 => refine' Mn.CF_mk ?ca ?cl ?cv ?cq ?ci ?ct ?cf ?cc ?ck; (case ca => k_is); (case cl => k_is); (case cv => kernel_rfl); (case cq => kernel_rfl); (case ci => k_is); (case ct => k_is); (case cf => k_is); (case cc => k_is); (case ck => k_is))
    (case x2 => refine' Mn.CF_mk ?ca ?cl ?cv ?cq ?ci ?ct ?cf ?cc ?ck; (case ca => k_is); (case cl => k_is); (case cv => kernel_rfl); (case cq => kernel_rfl); (case ci => k_is); (case ct => k_is); (case cf => k_is); (case cc => k_is); (case ck => k_is))
    (case x3 => refine' Mn.CF_mk ?ca ?cl ?cv ?cq ?ci ?ct ?cf ?cc ?ck; (case ca => k_is); (case cl => k_is); (case cv => kernel_rfl); (case cq => kernel_rfl); (case ci => k_is); (case ct => k_is); (case cf => k_is); (case cc => k_is); (case ck => k_is))
    (case j0 => k_is)
    (case j1 => kernel_rfl)
    (case vb => kernel_rfl)

